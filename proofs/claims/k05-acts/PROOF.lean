import PyProof.Rows.All
import Wide.All
import OpenK.AllK
import Wide.FinOn
import HandS.ForMost
import HandS.ForExc
import KE.SortData
import HandS.TupLe
import HandS.TupAny
import HandS.Walk
import HandS.Flow
import HandS.Conv
import HandS.IsInst
import HandS.Deep
import HandS.SetFor
import HandS.Style
import KE.KDictKeyed
import HandS.TupMul
import HandS.WideBits
import HandS.Zip
import HandS.ExcIs
import HandS.DictTup
import KE.GoesEnum
import HandS.Strs
import HandS.TupSets
import HandS.Codes
import HandS.Ends
import HandS.EndBits
import HandS.More
import HandS.Words
import HandS.WordsExc
import HandS.Defaults
import HandS.Head0
import HandS.Head1
import HandS.Head2
import HandS.HeadEnd
import HandS.HeadHook1
import HandS.HeadHook2
import PySem.Challenge.RW_ringhands_k05_acts
set_option Elab.async false
set_option linter.all false
/-! The core language: expressions and statements without places, and what they are worth over plain data. -/
namespace Rh
open PySem

inductive Res (α : Type) where
  | ok (a : α)
  | err (c : Str)
  | stuck
namespace Res
def bind {α β : Type} : Res α → (α → Res β) → Res β
  | .ok a, f => f a
  | .err c, _ => .err c
  | .stuck, _ => .stuck
def ofO {α : Type} : Option α → Res α
  | some a => .ok a
  | none => .stuck
end Res

/-- what a slot holds: a value that no one changes any more, or an own list or dict -/
inductive Sl where
  | sh (d : PyData)
  | own (d : PyData)
abbrev Ev := List (Option Sl)

/-- where a loop stores -/
inductive Tg where
  | one (i : Nat)
  | many (is : List Nat)

inductive Bi where
  | len | sorted | tuple | list | min | max | sum | lenSet | sortedSet
  deriving DecidableEq

mutual
inductive DE where
  | any
  | var (i : Nat) | int (n : Int) | neg (n : Int) | str (x : Str) | bl (b : Bool) | non | glob (x : Str)
  | tup (es : DEs) | lst (es : DEs)
  | bin (op : Operator) (a b : DE) | cmp (op : CmpOp) (a b : DE) | chain (o1 o2 : CmpOp) (a b c : DE)
  | inG (no : Bool) (a : DE) (x : Str)
  | nt (a : DE) | bop (op : BoolOp) (es : DEs) | ite (c a b : DE)
  | ix (a b : DE) | sl (a : DE) (lo hi : DO) | tl0 (a : DE) | rev (a : DE)
  | disp (ks : List Str) (vs : DEs) (e : DE)
  | call (f : Str) (es : DEs) | bi1 (f : Bi) (e : DE) | mn2 (a b : DE) | mx2 (a b : DE)
  | isi (e : DE) (T : String) | cnt (o a : DE) | tupRg (e : DE) | lstRg (e : DE)
  | lc (t : Tg) (it : IT) (c : DO) (e : DE)
  | lenS (e : DE) | idx (i : Nat) (a : DE) | sset (e : DE)
  | lenO (i : Nat) | ixO (i : Nat) (e : DE) | inO (no : Bool) (e : DE) (i : Nat) | truO (i : Nat)
inductive DEs where
  | nil | cons (e : DE) (es : DEs)
inductive DO where
  | no | some (e : DE)
inductive IT where
  | seq (e : DE) | rng1 (e : DE) | rng2 (a b : DE) | enm (e : DE) | zp (a b : DE)
end

/-- what a try holds: a value that is handed back, a call, a choice -/
inductive TrB where
  | ret (e : DE) | expr (e : DE) | ite (c : DE) (a b : TrB)
/-- what an except clause reckons: whether the error is of these classes -/
inductive HE where
  | var (i : Nat) | isl (Cs : List Str) | add (a b : HE)
inductive HS where
  | set (i : Nat) (e : HE) | ret (e : HE)
inductive DS where
  | any
  | tryE (b : TrB) (es : List Str) (C : Str) (i : Nat) (h : List HS) | catO (i : Nat) (e : DE)
  | set (i : Nat) (e : DE) | setT (is : List Nat) (e : DE) | newL (i : Nat) (es : DEs) | newD (i : Nat)
  | app (i : Nat) (e : DE) | ext (i : Nat) (e : DE) | dput (i : Nat) (k v : DE)
  | aug (i : Nat) (op : Operator) (e : DE) | expr (e : DE) | ret (e : DE) | retN
  | ite (c : DE) (a b : List DS) | for (t : Tg) (it : IT) (b : List DS) | raise (c : Str) (m : Str) | frz (i : Nat)

/-! ### data -/
def lim : Nat := 1000000
def truth : PyData → Option Bool
  | .none => some false
  | .bool b => some b
  | .int i => some (i != 0)
  | .list xs => some (!xs.isEmpty)
  | .tuple xs => some (!xs.isEmpty)
  | _ => none
def intsD : List PyData → Option (List Int)
  | [] => some []
  | .int i :: r => (intsD r).map (i :: ·)
  | _ => none
def mulOk (i j : Int) : Bool := Nat.ble i.natAbs.log2 63 || Nat.ble j.natAbs.log2 63
theorem log_ok {i : Int} : Nat.ble i.natAbs.log2 63 = true ↔ -(2 ^ 64) < i ∧ i < 2 ^ 64 := by
  rw [Nat.ble_eq]
  by_cases h : i.natAbs = 0
  · rw [h]
    have : i = 0 := by omega
    subst this
    decide
  · have z := Nat.log2_lt h (k := 64)
    omega
theorem mulOk_iff {i j : Int} : mulOk i j = true ↔ ((-(2 ^ 64) < i ∧ i < 2 ^ 64) ∨ (-(2 ^ 64) < j ∧ j < 2 ^ 64)) := by
  unfold mulOk
  rw [Bool.or_eq_true, log_ok, log_ok]
def powOk (i j : Int) : Bool := decide (0 ≤ j ∧ (Builtin.Int.intBits i : Int) * j ≤ 2 ^ 27)
def binD : Operator → PyData → PyData → Option PyData
  | .Add, .int i, .int j => some (.int (i + j))
  | .Add, .tuple xs, .tuple ys => if xs.length + ys.length ≤ lim then some (.tuple (xs ++ ys)) else none
  | .Add, .list xs, .list ys => if xs.length + ys.length ≤ lim then some (.list (xs ++ ys)) else none
  | .Sub, .int i, .int j => some (.int (i - j))
  | .Mult, .int i, .int j => if mulOk i j then some (.int (i * j)) else none
  | .Mod, .int i, .int j => if 0 < j then some (.int (i % j)) else none
  | .Pow, .int i, .int j => if powOk i j then some (.int (i ^ j.toNat)) else none
  | .FloorDiv, .int i, .int j => if 0 < j ∧ j ≤ 100 then some (.int (i / j)) else none
  | .LShift, .int i, .int j => if i = 1 ∧ 0 ≤ j ∧ j ≤ 1000 then some (.int (2 ^ j.toNat)) else none
  | .RShift, .int i, .int j => if 0 ≤ j then some (.int (i / 2 ^ j.toNat)) else none
  | .BitAnd, .int i, .int j => if j = 1 then some (.int (i % 2)) else none
  | .Mult, .tuple xs, .int k => if 1 ≤ xs.length ∧ xs.length ≤ 1000 ∧ 1 ≤ k ∧ k ≤ 1000 then some (.tuple (List.replicate k.toNat xs).flatten) else none
  | .Mult, .list xs, .int k => if xs.length ≤ 1000 ∧ 0 ≤ k ∧ k ≤ 1000 then some (.list (List.replicate k.toNat xs).flatten) else none
  | _, _, _ => none
def lexLe (a b : List Int) : Bool := !HT.lexLt b a
def eqD (a b : PyData) : Option Bool := if SeqAt.shaped a && SeqAt.shaped b then some (PyData.eqv a b) else none
def inD (x : PyData) (ys : List PyData) : Option Bool :=
  if SeqAt.shaped x && SeqAt.shaped (.list ys) then some (ys.any fun y => PyData.eqv y x) else none
def cmpD : CmpOp → PyData → PyData → Option Bool
  | .Eq, a, b => eqD a b
  | .NotEq, a, b => (eqD a b).map (!·)
  | .Lt, .int i, .int j => some (decide (i < j))
  | .LtE, .int i, .int j => some (decide (i ≤ j))
  | .Gt, .int i, .int j => some (decide (j < i))
  | .GtE, .int i, .int j => some (decide (j ≤ i))
  | .Lt, .tuple xs, .tuple ys => (intsD xs).bind fun a => (intsD ys).map fun b => HT.lexLt a b
  | .LtE, .tuple xs, .tuple ys => (intsD xs).bind fun a => (intsD ys).map fun b => lexLe a b
  | .In, x, .list ys => inD x ys
  | .In, x, .tuple ys => inD x ys
  | .NotIn, x, .list ys => (inD x ys).map (!·)
  | .NotIn, x, .tuple ys => (inD x ys).map (!·)
  | .Is, .none, .none => some true
  | .IsNot, .none, .none => some false
  | .Is, a, .none => some (match a with | .none => true | _ => false)
  | .IsNot, a, .none => some (match a with | .none => false | _ => true)
  | _, _, _ => none
def cut (xs : List PyData) (lo hi : Option Int) : List PyData :=
  (xs.drop (HT.sIx xs.length 0 lo)).take (HT.sIx xs.length xs.length hi - HT.sIx xs.length 0 lo)
/-- the key of a dict: tuples of numbers, texts, None and such tuples -/
def isKeyAll : List PyData → Bool
  | [] => true
  | .none :: r => isKeyAll r
  | .int _ :: r => isKeyAll r
  | .str _ :: r => isKeyAll r
  | .tuple xs :: r => isKeyAll xs && isKeyAll r
  | _ => false
mutual
def toKey : PyData → NestedKey
  | .int i => .num i
  | .str x => .text x
  | .tuple xs => .tup (toKeys xs)
  | _ => .none
def toKeys : List PyData → List NestedKey
  | [] => []
  | x :: r => toKey x :: toKeys r
end
def isKey : PyData → Bool
  | .tuple xs => isKeyAll xs && decide ((NestedKey.tup (toKeys xs)).depth ≤ 8)
  | _ => false
def dlook (kvs : List (PyData × PyData)) (k : PyData) : Option PyData := (kvs.find? fun p => PyData.eqv p.1 k).map (·.2)
def dput (k v : PyData) : List (PyData × PyData) → List (PyData × PyData)
  | [] => [(k, v)]
  | p :: r => if PyData.eqv p.1 k then (p.1, v) :: r else p :: dput k v r
def sortable (xs : List PyData) : Bool :=
  (xs.all fun a => xs.all fun b => PySem.W.alike a b) && (xs.all (fun d => match d with | .tuple (_ :: _) => true | _ => false) || xs.all (fun d => match d with | .tuple _ => false | .none => false | _ => true)) &&
    decide (xs.length ≤ lim) && xs.all fun d => decide (PyData.depth d ≤ 50) && PyData.canLay0 d
def sortD (xs : List PyData) : List PyData := xs.mergeSort (PySem.W.dataLe false id)
/-- what min can tell apart -/
def minable (xs : List PyData) : Bool :=
  (xs.all fun a => xs.all fun b => PySem.W.alike a b) && !xs.isEmpty && decide (xs.length ≤ lim) && xs.all fun d => (match d with | .none => false | _ => true) && decide (PyData.depth d ≤ 50) && PyData.canLay0 d
def minL : List PyData → PyData → PyData
  | [], b => b
  | x :: r, b => minL r (if PySem.W.dataLt x b then x else b)
def minD : List PyData → PyData
  | [] => .none
  | x :: r => minL r x
def mn2D (x y : PyData) : Option PyData := if minable [x, y] then some (minD [x, y]) else none
def mx2D : PyData → PyData → Option PyData
  | .int i, .int j => some (.int (if j > i then j else i))
  | _, _ => none
def maxI : List Int → Int
  | [] => 0
  | x :: r => r.foldl max x
def rangeD (i j : Int) : List PyData := (List.range (j - i).toNat).map fun (k : Nat) => .int (i + k)
def small (i : Int) : Bool := decide (-1000000 ≤ i ∧ i ≤ 1000000)
def bi1D : Bi → PyData → Option PyData
  | .len, .list xs => some (.int xs.length)
  | .len, .tuple xs => some (.int xs.length)
  | .len, .dict [(.str _, .list xs)] => some (.int xs.length)
  | .sorted, .list xs => if sortable xs then some (.list (sortD xs)) else none
  | .sorted, .tuple xs => if sortable xs then some (.list (sortD xs)) else none
  | .sorted, .dict kvs => if (kvs.all fun p => isKey p.1) && sortable (kvs.map (·.1)) then some (.list (sortD (kvs.map (·.1)))) else none
  | .tuple, .list xs => some (.tuple xs)
  | .tuple, .tuple xs => some (.tuple xs)
  | .list, .list xs => some (.list xs)
  | .list, .tuple xs => some (.list xs)
  | .min, .list xs => if minable xs then some (minD xs) else none
  | .min, .tuple xs => if minable xs then some (minD xs) else none
  | .max, .list xs => (intsD xs).bind fun a => if a.isEmpty then none else some (.int (maxI a))
  | .sum, .tuple xs => (intsD xs).bind fun a => if a.all small && decide (a.length ≤ lim) then some (.int a.sum) else none
  | _, _ => none
def isiD (T : String) : PyData → Option Bool
  | .none => some false
  | .bool _ => some (T == "bool" || T == "int")
  | .int _ => some (T == "int")
  | .str _ => some (T == "str")
  | .list _ => some (T == "list")
  | .tuple _ => some (T == "tuple")
  | .dict _ => none
def cntD : PyData → PyData → Option PyData
  | .tuple xs, .int k => (intsD xs).map fun a => .int (a.count k : Nat)
  | _, _ => none
/-- the different ones -/
def difs : List Int → List Int
  | [] => []
  | x :: r => if x ∈ r then difs r else x :: difs r
def lenSD : PyData → Option PyData
  | .tuple xs => (intsD xs).bind fun a => if a.length ≤ 1000 then some (.int (difs a).length) else none
  | _ => none
/-- tuples of numbers -/
def tupsD : List PyData → Option (List (List Int))
  | [] => some []
  | .tuple xs :: r => (intsD xs).bind fun a => (tupsD r).map (a :: ·)
  | _ => none
def difT : List (List Int) → List (List Int)
  | [] => []
  | x :: r => if x ∈ r then difT r else x :: difT r
def tupI (ns : List Int) : PyData := .tuple (ns.map .int)
def ssetD : PyData → Option PyData
  | .list xs => (tupsD xs).bind fun a => if Nat.ble (difT a).length 250 && sortable ((difT a).map tupI) then some (.list (sortD ((difT a).map tupI))) else none
  | _ => none
/-- where it stands first -/
def posI (k : Int) : List Int → Nat → Option Nat
  | [], _ => none
  | x :: r, i => if x = k then some i else posI k r (i + 1)
def idxD : PyData → PyData → Option PyData
  | .list xs, .int k => (intsD xs).bind fun a => (posI k a 0).map fun (i : Nat) => PyData.int (i : Int)
  | _, _ => none
/-- own errors: all are HandErrors, and so ValueErrors -/
def isSub (c C : Str) : Bool := decide (c = C) || decide (C = "HandError") || decide (C = "ValueError")
def ixD : PyData → PyData → Option PyData
  | .list xs, .int i => L2.atI xs i
  | .tuple xs, .int i => L2.atI xs i
  | .dict [(.str _, .list xs)], .int i => L2.atI xs i
  | _, _ => none

def setTg : Tg → PyData → Ev → Option Ev
  | .one i, d, δ => some (δ.set i (some (.sh d)))
  | .many is, .tuple xs, δ => if xs.length = is.length then some ((is.zip xs).foldl (fun δ p => δ.set p.1 (some (.sh p.2))) δ) else none
  | .many _, _, _ => none
def wipeTg : Tg → Ev → Ev
  | .one i, δ => δ.set i none
  | .many is, δ => is.foldr (fun i δ => δ.set i none) δ

section
variable (g : Str → Option PyData) (f : Str → List PyData → Res PyData)
def consO : Option PyData → List PyData → List PyData
  | some y, ys => y :: ys
  | none, ys => ys
def snocO (ys : List PyData) : Option PyData → List PyData
  | some y => ys ++ [y]
  | none => ys
def lcLoop (body : PyData → Option (Option PyData)) : List PyData → Option (List PyData)
  | [] => some []
  | x :: r => (body x).bind fun y => (lcLoop body r).map fun ys => consO y ys
def okO {α : Type} : Res α → Option α
  | .ok a => some a
  | _ => none
mutual
def ev : DE → Ev → Res PyData
  | .var i, δ => (match δ[i]? with
    | some (some (.sh d)) => .ok d
    | _ => .stuck)
  | .int n, _ => .ok (.int n)
  | .neg n, _ => .ok (.int (-n))
  | .str x, _ => .ok (.str x)
  | .bl b, _ => .ok (.bool b)
  | .non, _ => .ok .none
  | .glob x, _ => .ofO (g x)
  | .tup es, δ => (evs es δ).bind fun ds => if ds.length ≤ lim then .ok (.tuple ds) else .stuck
  | .lst es, δ => (evs es δ).bind fun ds => if ds.length ≤ lim then .ok (.list ds) else .stuck
  | .bin op a b, δ => (ev a δ).bind fun x => (ev b δ).bind fun y => .ofO (binD op x y)
  | .cmp op a b, δ => (ev a δ).bind fun x => (ev b δ).bind fun y => .ofO ((cmpD op x y).map .bool)
  | .chain o1 o2 a b c, δ => (ev a δ).bind fun x => (ev b δ).bind fun y => (Res.ofO (cmpD o1 x y)).bind fun k =>
      if k then (ev c δ).bind fun z => .ofO ((cmpD o2 y z).map .bool) else .ok (.bool false)
  | .inG no a x, δ => (ev a δ).bind fun y => (match g x with
    | some (.tuple ys) => .ofO ((inD y ys).map fun k => .bool (if no then !k else k))
    | _ => .stuck)
  | .nt a, δ => (ev a δ).bind fun x => .ofO ((truth x).map fun k => .bool (!k))
  | .bop op es, δ => evb op es δ
  | .ite c a b, δ => (ev c δ).bind fun x => (match truth x with
    | some true => ev a δ
    | some false => ev b δ
    | none => .stuck)
  | .ix a b, δ => (ev a δ).bind fun x => (ev b δ).bind fun y => .ofO (ixD x y)
  | .sl a lo hi, δ => (ev a δ).bind fun x => (evo lo δ).bind fun l => (evo hi δ).bind fun h => (match x with
    | .list xs => .ok (.list (cut xs l h))
    | .tuple xs => .ok (.tuple (cut xs l h))
    | _ => .stuck)
  | .tl0 a, δ => (ev a δ).bind fun x => (match x with
    | .tuple xs => .ok (.tuple xs.tail.reverse)
    | _ => .stuck)
  | .rev a, δ => (ev a δ).bind fun x => (match x with
    | .list xs => .ok (.list xs.reverse)
    | _ => .stuck)
  | .disp ks vs e, δ => (evs vs δ).bind fun ds => (ev e δ).bind fun k => (match k with
    | .str x => if ks.length = ds.length ∧ ks.Nodup then .ofO ((ks.zip ds).lookup x) else .stuck
    | _ => .stuck)
  | .call x es, δ => (evs es δ).bind fun ds => f x ds
  | .bi1 b e, δ => (ev e δ).bind fun x => .ofO (bi1D b x)
  | .mn2 a b, δ => (ev a δ).bind fun x => (ev b δ).bind fun y => .ofO (mn2D x y)
  | .mx2 a b, δ => (ev a δ).bind fun x => (ev b δ).bind fun y => .ofO (mx2D x y)
  | .isi e T, δ => (ev e δ).bind fun x => .ofO ((isiD T x).map .bool)
  | .cnt o a, δ => (ev o δ).bind fun x => (match x with
    | .tuple xs => (ev a δ).bind fun y => .ofO (cntD (.tuple xs) y)
    | _ => .stuck)
  | .any, _ => .stuck
  | .tupRg e, δ => (ev e δ).bind fun x => (match x with
    | .int n => if small n then .ok (.tuple (rangeD 0 n)) else .stuck
    | _ => .stuck)
  | .lstRg e, δ => (ev e δ).bind fun x => (match x with
    | .int n => if small n then .ok (.list (rangeD 0 n)) else .stuck
    | _ => .stuck)
  | .lc t it c e, δ => (evi it δ).bind fun xs => .ofO ((lcLoop (fun x => (setTg t x (wipeTg t δ)).bind fun δ' => (okO (evc c δ')).bind fun k =>
      if k then (okO (ev e δ')).map some else some none) xs).bind fun ys => if xs.length ≤ lim then some (.list ys) else none)
  | .lenS e, δ => (ev e δ).bind fun x => .ofO (lenSD x)
  | .sset e, δ => (ev e δ).bind fun x => .ofO (ssetD x)
  | .idx i a, δ => (match δ[i]? with
    | some (some (.sh (.list xs))) => (ev a δ).bind fun y => .ofO (idxD (.list xs) y)
    | _ => .stuck)
  | .lenO i, δ => (match δ[i]? with
    | some (some (.own (.list xs))) => .ok (.int xs.length)
    | _ => .stuck)
  | .ixO i e, δ => (match δ[i]? with
    | some (some (.own (.list xs))) => (ev e δ).bind fun y => (match y with
      | .int k => .ofO (L2.atI xs k)
      | _ => .stuck)
    | some (some (.own (.dict kvs))) => (ev e δ).bind fun k => if isKey k then .ofO (dlook kvs k) else .stuck
    | _ => .stuck)
  | .inO no e i, δ => (ev e δ).bind fun k => (match δ[i]? with
    | some (some (.own (.dict kvs))) => if isKey k then .ok (.bool (if no then !(dlook kvs k).isSome else (dlook kvs k).isSome)) else .stuck
    | _ => .stuck)
  | .truO i, δ => (match δ[i]? with
    | some (some (.own (.list xs))) => .ok (.bool (!xs.isEmpty))
    | _ => .stuck)
def evs : DEs → Ev → Res (List PyData)
  | .nil, _ => .ok []
  | .cons e es, δ => (ev e δ).bind fun x => (evs es δ).bind fun xs => .ok (x :: xs)
def evb : BoolOp → DEs → Ev → Res PyData
  | _, .nil, _ => .stuck
  | op, .cons e es, δ => (ev e δ).bind fun x => (match es with
    | .nil => .ok x
    | .cons _ _ => (match truth x with
      | some k => if k = (match op with | .And => true | .Or => false) then evb op es δ else .ok x
      | none => .stuck))
def evo : DO → Ev → Res (Option Int)
  | .no, _ => .ok none
  | .some e, δ => (ev e δ).bind fun x => (match x with
    | .int i => .ok (some i)
    | _ => .stuck)
def evc : DO → Ev → Res Bool
  | .no, _ => .ok true
  | .some e, δ => (ev e δ).bind fun x => .ofO (truth x)
def evi : IT → Ev → Res (List PyData)
  | .seq e, δ => (ev e δ).bind fun x => (match x with
    | .list xs => .ok xs
    | .tuple xs => .ok xs
    | _ => .stuck)
  | .rng1 e, δ => (ev e δ).bind fun x => (match x with
    | .int n => if small n then .ok (rangeD 0 n) else .stuck
    | _ => .stuck)
  | .rng2 a b, δ => (ev a δ).bind fun x => (ev b δ).bind fun y => (match x, y with
    | .int i, .int j => if small i && small j then .ok (rangeD i j) else .stuck
    | _, _ => .stuck)
  | .enm e, δ => (ev e δ).bind fun x => (match x with
    | .list xs => .ok (xs.mapIdx fun k x => .tuple [.int k, x])
    | .tuple xs => .ok (xs.mapIdx fun k x => .tuple [.int k, x])
    | _ => .stuck)
  | .zp a b, δ => (ev a δ).bind fun x => (ev b δ).bind fun y => (match x, y with
    | .tuple xs, .tuple ys => .ok ((xs.zip ys).map fun p => .tuple [p.1, p.2])
    | _, _ => .stuck)
end

inductive Out where
  | nx (δ : Ev) | rt (d : PyData) | bk (δ : Ev) | ct (δ : Ev) | err (c : Str) | stuck
def Out.ofR {α : Type} : Res α → (α → Out) → Out
  | .ok a, k => k a
  | .err c, _ => .err c
  | .stuck, _ => .stuck
def forL (body : Ev → Out) (t : Tg) : List PyData → Ev → Out
  | [], δ => .nx δ
  | x :: r, δ => (match setTg t x δ with
    | none => .stuck
    | some δ1 => (match body δ1 with
      | .nx δ2 => forL body t r δ2
      | .ct δ2 => forL body t r δ2
      | .bk δ2 => .nx δ2
      | o => o))
def slot (δ : Ev) (i : Nat) (s : Sl) : Ev := δ.set i (some s)
def evT : TrB → Ev → Res (Option PyData)
  | .ret e, δ => (ev g f e δ).bind fun d => .ok (some d)
  | .expr e, δ => (ev g f e δ).bind fun _ => .ok none
  | .ite c a b, δ => (ev g f c δ).bind fun x => (match truth x with
    | some true => evT a δ
    | some false => evT b δ
    | none => .stuck)
def evH (c : Str) : HE → Ev → Option PyData
  | .var i, δ => (match δ[i]? with
    | some (some (.sh d)) => some d
    | _ => none)
  | .isl Cs, _ => if Cs.length ≤ 100 then some (.list (Cs.map fun C => .bool (isSub c C))) else none
  | .add a b, δ => (evH c a δ).bind fun x => (evH c b δ).bind fun y => binD .Add x y
def execH (c : Str) : List HS → Ev → Out
  | [], δ => .nx δ
  | .set i e :: r, δ => (match evH c e δ with
    | some d => execH c r (slot δ i (.sh d))
    | none => .stuck)
  | .ret e :: _, δ => (match evH c e δ with
    | some d => .rt d
    | none => .stuck)
def tryO (δ : Ev) (es : List Str) (C : Str) (i : Nat) (h : List HS) : Res (Option PyData) → Out
  | .ok (some d) => .rt d
  | .ok none => .nx δ
  | .stuck => .stuck
  | .err c => if c ∈ es ∧ isSub c C = true ∧ i < δ.length then (match execH c h (δ.set i none) with
    | .nx δ' => .nx (δ'.set i none)
    | .rt d => .rt d
    | _ => .stuck) else if isSub c C then .stuck else .err c
mutual
def exec : DS → Ev → Out
  | .any, _ => .stuck
  | .tryE b es C i h, δ => tryO δ es C i h (evT g f b δ)
  | .catO i e, δ => (match δ[i]? with
    | some (some (.own (.list xs))) => .ofR (ev g f e δ) fun d => (match d with
      | .list ys => if xs.length + ys.length ≤ lim then .nx (slot δ i (.own (.list (xs ++ ys)))) else .stuck
      | _ => .stuck)
    | _ => .stuck)
  | .set i e, δ => .ofR (ev g f e δ) fun d => .nx (slot δ i (.sh d))
  | .setT is e, δ => .ofR (ev g f e δ) fun d => (match setTg (.many is) d δ with
    | some δ' => .nx δ'
    | none => .stuck)
  | .newL i es, δ => .ofR (evs g f es δ) fun ds => if ds.length ≤ lim then .nx (slot δ i (.own (.list ds))) else .stuck
  | .newD i, δ => .nx (slot δ i (.own (.dict [])))
  | .app i e, δ => (match δ[i]? with
    | some (some (.own (.list xs))) => .ofR (ev g f e δ) fun d => if xs.length < lim then .nx (slot δ i (.own (.list (xs ++ [d])))) else .stuck
    | _ => .stuck)
  | .ext i e, δ => (match δ[i]? with
    | some (some (.own (.list xs))) => .ofR (ev g f e δ) fun d => (match d with
      | .list ys => if xs.length + ys.length ≤ lim then .nx (slot δ i (.own (.list (xs ++ ys)))) else .stuck
      | _ => .stuck)
    | _ => .stuck)
  | .dput i k v, δ => .ofR (ev g f v δ) fun d => (match δ[i]? with
    | some (some (.own (.dict kvs))) => .ofR (ev g f k δ) fun kd => if isKey kd && decide (kvs.length < lim) then .nx (slot δ i (.own (.dict (dput kd d kvs)))) else .stuck
    | _ => .stuck)
  | .aug i op e, δ => (match δ[i]?, op with
    | some (some (.sh (.int a))), .Add => .ofR (ev g f e δ) fun d => (match d with
      | .int b => .nx (slot δ i (.sh (.int (a + b))))
      | _ => .stuck)
    | _, _ => .stuck)
  | .expr e, δ => .ofR (ev g f e δ) fun _ => .nx δ
  | .ret e, δ => .ofR (ev g f e δ) fun d => .rt d
  | .retN, _ => .rt .none
  | .ite c a b, δ => .ofR (ev g f c δ) fun x => (match truth x with
    | some true => execs a δ
    | some false => execs b δ
    | none => .stuck)
  | .for t it b, δ => .ofR (evi g f it δ) fun xs => forL (execs b) t xs δ
  | .raise c _, _ => .err c
  | .frz i, δ => (match δ[i]? with
    | some (some (.own d)) => .nx (slot δ i (.sh d))
    | _ => .stuck)
def execs : List DS → Ev → Out
  | [], δ => .nx δ
  | s :: r, δ => (match exec s δ with
    | .nx δ' => execs r δ'
    | o => o)
end
end

/-- a def: how many parameters, how many names, its body -/
structure Df where
  np : Nat
  ns : Nat
  body : List DS
def run (g : Str → Option PyData) (tab : Str → Option Df) : Nat → Str → List PyData → Res PyData
  | 0, _, _ => .stuck
  | k + 1, x, ds => (match tab x with
    | none => .stuck
    | some d => if ds.length = d.np then
        (match execs g (run g tab k) d.body (ds.map (fun z => some (.sh z)) ++ List.replicate (d.ns - d.np) none) with
        | .rt v => .ok v
        | .nx _ => .ok .none
        | .err c => .err c
        | _ => .stuck)
      else .stuck)
end Rh

set_option Elab.async false
set_option linter.all false
set_option maxRecDepth 100000
set_option maxHeartbeats 1000000
/-! Tuples whose object is known to the last: their makings, and count. -/
namespace Rh
open PySem PySem.Spec PyProof.Rows L2
/-- at a stands a tuple, its object known, without a dict of its own -/
def TupAt (F : Hp) (a : Addr) (xs : List V) : Prop := ∃ o : Obj, o.dict = none ∧ F a = some (.frz o (.tup xs))
theorem TupAt.mono {F F' : Hp} {a : Addr} {xs : List V} (s : Same F F') (h : TupAt F a xs) : TupAt F' a xs := by
  obtain ⟨o, d, e⟩ := h
  exact ⟨o, d, s _ _ e⟩
theorem TupAt.sq {K : PySem.W.Frag} {F : Hp} {a : Addr} {xs : List V} (h : TupAt F a xs) : SqT K F a xs := by
  obtain ⟨o, _, e⟩ := h
  exact .inl (.inr ⟨o, e⟩)
theorem TupAt.new {F : Hp} {a : Addr} {xs : List V} {o : Obj} (d : o.dict = none) : TupAt (upd F a (.frz o (.tup xs))) a xs := ⟨o, d, upd_same⟩
/-- what is wanted of a new tuple -/
def NewT (xs : List V) (H : Hp) (Q : VK) : Prop := ∀ (p : Addr) (o : Obj), o.dict = none → H p = none → Q (.ref p) (upd H p (.frz o (.tup xs)))
section
variable {X : Cx} {pins : List (Addr × Obj)} {σ : L2.St} {H : Hp} {s : Shared}
/-- the tuple is the heap's new last object -/
theorem newT_here {xs : List V} {us : List Value} {Q : VK} {tk : Nat} (I : Inv X pins σ H s) (r : Vals xs us) (z : xs.length ≤ sizeLine) (h : NewT xs H Q) :
    EP X pins σ Q (.ref s.heap.objs.size) { s with heap := s.heap.push { cls := .type "tuple", data := .seq us.toArray }, toks := tk } := by
  have nf : H s.heap.objs.size = none := I.hok.fresh (Nat.le_refl _)
  refine ⟨.ref s.heap.objs.size, _, I.laid (t' := tk) (o := .frz { cls := .type "tuple", data := .seq us.toArray } (.tup xs)) (fun _ _ k => Heap.get?_push_of_some _ k) (Nat.le_refl _) ?_, rfl, h _ _ rfl nf⟩
  exact ⟨Heap.get?_push_size _ rfl, z, us, r, ⟨_, Heap.get?_push_size _ rfl, rfl, _, rfl⟩⟩
/-- a display -/
def tTupF (t : TA) : TE := fun σ H Q => t σ H fun xs H1 => xs.length ≤ sizeLine ∧ NewT xs H1 Q
theorem pe_tupF {es : List Expr} {t : TA} {k : Nat} {pos : Pos} (h : PA X es t) : PE X (.Tuple es k pos) (tTupF t) := by
  constructor
  intro pins s σ H Q I hq
  refine wpAny_Tuple_spliced (thn (h.run pos pins s σ H _ I hq) fun us z1 ⟨xs, H1, I1, r, z, q⟩ => ⟨by rw [← r.length]; exact z, ?_⟩)
  exact newT_here (tk := z1.toks) I1 r z q
/-- t + u -/
def rCatF (K : PySem.W.Frag) : R2 := fun x y H Q => ∃ a b xs ys, x = .ref a ∧ y = .ref b ∧ SqT K H a xs ∧ SqT K H b ys ∧ xs.length + ys.length ≤ sizeLine ∧
  (xs = [] → Q (.ref b) H) ∧ (xs ≠ [] → ys = [] → Q (.ref a) H) ∧ (xs ≠ [] → ys ≠ [] → NewT (xs ++ ys) H Q)
theorem op_catF : OpR X (binaryOp .Add) (rCatF X.K) := by
  intro pins s σ H x y v u Q I rx ry h
  obtain ⟨a, b, xs, ys, rfl, rfl, ha, hb, hz, q0, q1, q2⟩ := h
  cases rx
  cases ry
  obtain ⟨us, r1, p1, _⟩ := I.tuple ha
  obtain ⟨ws, r2, p2, _⟩ := I.tuple hb
  have l1 := r1.length
  have l2 := r2.length
  by_cases hx : xs = []
  · have hu : us = [] := r1.nil_iff.mpr hx
    subst hu
    exact cat_tup0 p1 p2 ⟨.ref b, H, I, rfl, q0 hx⟩
  · have hu : us ≠ [] := fun z => hx (r1.nil_iff.mp z)
    refine HT.cat_tup p1 p2 hu (fun z => ⟨.ref a, H, I, rfl, q1 hx (r2.nil_iff.mp z)⟩) (fun z => ?_) (by omega)
    exact newT_here (tk := s.toks) I (r1.append r2) (by rw [List.length_append]; omega) (q2 hx fun y => z (r2.nil_iff.mpr y))
/-- t[lo:hi] -/
def rSlF (K : PySem.W.Frag) : V → Option Int → Option Int → Hp → VK → Prop := fun x lo hi H Q => ∃ a xs, x = .ref a ∧ SqT K H a xs ∧
  (HT.sIx xs.length 0 lo = 0 ∧ HT.sIx xs.length xs.length hi = xs.length → Q (.ref a) H) ∧ (¬ (HT.sIx xs.length 0 lo = 0 ∧ HT.sIx xs.length xs.length hi = xs.length) → NewT (cutV xs lo hi) H Q)
theorem sl_tupF : SlR X (rSlF X.K) := by
  intro pins s σ H x v vl vu lo hi sl Q I rx hs pl pu ⟨a, xs, ex, hx, q1, q2⟩
  subst ex
  cases rx
  obtain ⟨us, r, ht, hz⟩ := I.tuple hx
  have hl : us.toArray.size = xs.length := by rw [List.size_toArray]; exact r.length.symm
  refine ⟨"tuple", _, PyProof.Rows.slot_tuple_getitem.lookup, ht.typeIs, ?_⟩
  by_cases hw : HT.sIx xs.length 0 lo = 0 ∧ HT.sIx xs.length xs.length hi = xs.length
  · exact getItem_tuple_whole ht hs pl pu (by rw [hl]; exact hw) ⟨.ref a, H, I, rfl, q1 hw⟩
  · refine HT.getItem_tuple_cut ht hs pl pu (by rw [hl]; exact hw) ?_ (by rw [hl]; exact hz)
    rw [hl]
    exact newT_here (tk := s.toks) I ((r.drop (HT.sIx xs.length 0 lo)).take (HT.sIx xs.length xs.length hi - HT.sIx xs.length 0 lo)) (Nat.le_trans (cutV_length xs lo hi) hz) (q2 hw)
/-- tuple(x) -/
def rTupleF (K : PySem.W.Frag) : List V → Hp → VK → Prop := fun xs H Q => ∃ p ys, xs = [.ref p] ∧ ((SqL K H p ys ∧ NewT ys H Q) ∨ (SqT K H p ys ∧ Q (.ref p) H))
theorem call_tupleF : CallR X (.type "tuple") (rTupleF X.K) := by
  intro pins s σ H xs us Q I r ⟨p, ys, ex, h⟩
  subst ex
  obtain ⟨u, rfl, rx⟩ := vals1 r
  cases rx
  rcases h with ⟨hq, q⟩ | ⟨hq, q⟩
  · obtain ⟨its, rv, pl, hz⟩ := I.list hq
    have hl := rv.length
    refine call_tuple_list pl.isList (fun hp kp => ?_) (by simp only [List.size_toArray] <;> omega)
    exact newT_here (s := { s with heap := hp }) (tk := s.toks) (I.kept (t' := s.toks) kp) rv hz q
  · obtain ⟨its, rv, pl, _⟩ := I.tuple hq
    exact call_tuple_same pl ⟨.ref p, H, I, rfl, q⟩
/-- tuple(range(..)) -/
def tTupRgF (te : L2.St → Hp → (Int → Int → Hp → Prop) → Prop) : TE := fun σ H Q => te σ H fun a b H1 => RgOk a b ∧ NewT (rgV a b) H1 Q
theorem pe_tupRgF {e : Expr} {te : L2.St → Hp → (Int → Int → Hp → Prop) → Prop} {p pos : Pos} (hc : X.calm = true) (hg : Gl X "tuple") (hm : X.mg "tuple" = none) (he : PRg X e te) (na : starEach [e] X.env = (false, eval e X.env) :: starEach [] X.env) :
    PE X (.Call (.Name "tuple" p) [e] [] pos) (tTupRgF te) := by
  constructor
  intro pins s σ H Q I h
  refine Call_ (ld_blt I hg hm boot_tuple (PyProof.Rows.callWith_type1 (args_cons (thn (he pins s σ H _ I h) fun x z1 ⟨r, a, b, t, u, v, H1, ex, hr, I1, ok, q⟩ => args_nil ?_) na) na))
  subst ex
  obtain ⟨b1, b2, b3, b4, b5⟩ := ok
  refine call_tuple_range (n := (b - a).toNat) (I1.ok.hd hc) hr (small_one b1 b2 b3 b4) (rangeSize_nat a b) b5 fun hp tk acc hk hi => ?_
  have J : Inv X pins σ H1 { z1 with heap := hp, toks := tk } := I1.kept hk
  have z := newT_here (us := acc.toList) (tk := tk) J (vals_rg hi) (by rw [rgV_length, sizeLine_eq]; omega) q
  rw [Array.toArray_toList] at z
  exact z
/-- t * 1: the tuple itself -/
theorem mul_one (l : Addr) (items : Array Value) (n : Nat) (dd : Option Addr) (sl : Array (Option Value)) (u : Tok) :
    Meets (Builtin.«tuple.__mul__» ⟨[.ref l, .int 1 u], []⟩) (fun _ R s => s.heap.get? l = some { cls := .type "tuple", dict := dd, data := .seq items n, slots := sl } ∧ R (.ok (.ret (Value.ref l))) s) :=
  .of_wp fun prog w A R s hh => by
    obtain ⟨hp, gg, dt, tk, os⟩ := s
    obtain ⟨hl, hR⟩ := hh
    have f1 := AutoSeq1.idx_int
    have c0 : (decide ((1 : Int) < -(2 ^ 63)) || decide ((1 : Int) ≥ 2 ^ 63)) = false := by decide
    have c1 : (items.isEmpty || (1 : Int) == 1) = true := by simp
    wp_walk using wpAny_loadPart' hl
    repeat (first
      | (refine wpAny_ite_false (decide_eq_false (by rw [c0]; exact Bool.false_ne_true)) ?_
         wp_walk using wpAny_loadPart' hl)
      | (refine wpAny_ite_true (decide_eq_true (by rw [c1])) ?_
         wp_walk using wpAny_loadPart' hl))
    exact ⟨_, rfl, hR⟩
/-- t * k -/
def rRepF (K : PySem.W.Frag) : R2 := fun x y H Q => ∃ (l : Addr) (k : Int) (xs : List V), x = .ref l ∧ y = .int k ∧ SqT K H l xs ∧ xs ≠ [] ∧ 1 ≤ k ∧ k ≤ 1000 ∧ xs.length ≤ 1000 ∧
  (k = 1 → Q (.ref l) H) ∧ (2 ≤ k → NewT (List.replicate k.toNat xs).flatten H Q)
theorem rep_bound {α : Type} {xs : List α} {k : Int} (h : xs.length ≤ 1000) (hk : k ≤ 1000) : (List.replicate k.toNat xs).flatten.length ≤ 1000000 := by
  rw [PyProof.Rows.lm_len_rep_flat]
  exact Nat.mul_le_mul (show k.toNat ≤ 1000 by omega) h
theorem op_repF : OpR X (binaryOp .Mult) (rRepF X.K) := by
  intro pins s σ H x y v u Q I rx ry hh
  obtain ⟨l, k, xs, rfl, rfl, hT, hne, h1, h2, hz, q1, q2⟩ := hh
  cases rx
  obtain ⟨t, rfl⟩ := ry
  obtain ⟨its, r, ⟨⟨cl, dd, dat, sl⟩, ho, ec, n, ed⟩, _⟩ := I.tuple hT
  simp only at ec ed
  subst ec ed
  have el : its.length = xs.length := r.length.symm
  have hi : its.toArray.isEmpty = false := by
    cases its with
    | nil => exact absurd (List.eq_nil_of_length_eq_zero el.symm) hne
    | cons a b => rfl
  by_cases k1 : k = 1
  · subst k1
    refine wpAny_binaryOp_repeat_ref (T := "tuple") (U := "int") (by decide) ⟨_, ho, rfl⟩ (fun z => typeIs_int z 1 t) noFill_tuple_mul F.fills_int_mul F.slot_int_rmul repeat_tuple F.slot_int_index.lookup ?_
    refine call_meets F.slot_int_rmul (typeIs_int s 1 t) F.entry_int_rmul (F.args_int_rmul_2 _ _) (int_rmul_tuple 1 t l its.toArray n dd sl) ⟨ho, rfl, ⟨_, ho, rfl⟩, ?_⟩
    exact call_meets F.slot_tuple_mul ⟨_, ho, rfl⟩ F.entry_tuple_mul (F.args_tuple_mul_2 _ _) (mul_one l its.toArray n dd sl t) ⟨ho, .ref l, H, I, rfl, q1 rfl⟩
  · have sz : its.toArray.size = xs.length := by rw [List.size_toArray, el]
    have big : ((its.toArray.size : Nat) : Int) * k ≤ 1000000 := by
      rw [sz]
      have a1 : ((xs.length : Nat) : Int) * k ≤ 1000 * k := Int.mul_le_mul_of_nonneg_right (by omega) (by omega)
      omega
    have fl : (List.replicate k.toNat its).flatten.length ≤ sizeLine := by
      have z := rep_bound (xs := its) (k := k) (by omega) h2
      rw [sizeLine_eq]
      omega
    have b0 : (decide (k < -(2 ^ 63)) || decide (k ≥ 2 ^ 63)) = false := by
      rw [Bool.or_eq_false_iff]
      exact ⟨decide_eq_false (by omega), decide_eq_false (by omega)⟩
    have b1 : (its.toArray.isEmpty || k == 1) = false := by
      rw [Bool.or_eq_false_iff]
      exact ⟨hi, beq_eq_false_iff_ne.mpr k1⟩
    have b2 : (decide (k ≤ 0) || its.toArray.isEmpty) = false := by
      rw [Bool.or_eq_false_iff]
      exact ⟨decide_eq_false (by omega), hi⟩
    have b4 : Builtin.Tuple.tupleTooMany (((its.toArray.size : Nat) : Int) * k) = false := by
      unfold Builtin.Tuple.tupleTooMany
      rw [sizeLine_eq]
      exact decide_eq_false (by omega)
    refine wpAny_binaryOp_repeat_ref (T := "tuple") (U := "int") (by decide) ⟨_, ho, rfl⟩ (fun z => typeIs_int z k t) noFill_tuple_mul F.fills_int_mul F.slot_int_rmul repeat_tuple F.slot_int_index.lookup ?_
    refine call_meets F.slot_int_rmul (typeIs_int s k t) F.entry_int_rmul (F.args_int_rmul_2 _ _) (int_rmul_tuple k t l its.toArray n dd sl) ⟨ho, rfl, ⟨_, ho, rfl⟩, ?_⟩
    refine call_meets F.slot_tuple_mul ⟨_, ho, rfl⟩ F.entry_tuple_mul (F.args_tuple_mul_2 _ _) (tuple_mulW l its.toArray n dd sl k t b0 b1 b2 (by omega) b4 (by rw [size_rep, List.size_toArray]; exact fl)) ⟨ho, ?_⟩
    rw [size_rep]
    have z := rep_bound (xs := xs) (k := k) hz h2
    exact newT_here (tk := s.toks) I (r.rep k.toNat) (by rw [sizeLine_eq]; omega) (q2 (by omega))
/-- t.count(k), ints -/
theorem mt_tcount : MtR X "tuple.count" (fun x xs H Q => ∃ (p : Addr) (ns : List Int) (k : Int), x = .ref p ∧ xs = [.int k] ∧ SqT X.K H p (ns.map V.int) ∧ Q (.int (ns.count k : Nat)) H) := by
  intro pins s σ H x xs v us Q I rx rs ⟨p, ns, k, e1, e2, hq, q⟩
  subst e1 e2
  cases rx
  obtain ⟨u, rfl, t, rfl⟩ := vals1 rs
  obtain ⟨its, rv, ⟨⟨cls, dd, data, sl⟩, ho, hc, n, hd⟩, _⟩ := I.tuple hq
  simp only at hc hd
  subst hc hd
  have hi : IntsAre its ns := Vals.ints rv
  refine call_meets PySem.F.slot_tuple_count ⟨_, ho, rfl⟩ PySem.F.entry_tuple_count (PySem.F.args_tuple_count_2 _ _)
    (SeqAt.tuple_countAt p its.toArray n dd sl (.int k t) (eqk k)) ⟨ho, fun y hy => ?_, ?_⟩
  · have hy' : y ∈ its := by simpa using hy
    have key : ∀ {us : List Value} {ms : List Int}, IntsAre us ms → ∀ y ∈ us, SeqAt.EqAt X.A.in1 s y (.int k t) (eqk k y) := by
      intro us ms h
      induction h with
      | nil => intro y hy; cases hy
      | cons a t' h ih =>
        intro y hy
        rcases List.mem_cons.mp hy with e | hy
        · subst e
          exact SeqAt.EqAt.int_int _ _ _ _
        · exact ih y hy
    exact key hi y hy'
  · have e : List.countP (eqk k) its.toArray.toList = ns.count k := eqk_count hi
    rw [e]
    exact ⟨.int (ns.count k : Nat), H, I.tok _, ⟨_, rfl⟩, q⟩
/-- o.count(e), o a tuple whose object is known -/
def tCnt (K : PySem.W.Frag) (to te : TE) : TE := fun σ H Q => to σ H fun x H1 => ∃ p xs, x = .ref p ∧ TupAt H1 p xs ∧ te σ H1 fun y H2 => ∃ (ns : List Int) (k : Int), y = .int k ∧ SqT K H2 p (ns.map V.int) ∧ Q (.int (ns.count k : Nat)) H2
theorem pe_cnt {o e : Expr} {to te : TE} {apos cpos : Pos} (ho : PE X o to) (he : PE X e te) (hbase : attributeBase o "count" X.env (eval o X.env) = eval o X.env)
    (hfew : ((backTo cpos (starEach [e] X.env)).all (fun x => !x.1) && (backToKw cpos (keywordEach [] X.env)).all (fun x => x.1.isSome)
      && decide ([e].length + ([] : List Keyword).length + (if ([] : List Keyword).isEmpty then 0 else 1) < 30)) = true)
    (hline : (apos.endLine == cpos.line) = true) (hs : starEach [e] X.env = (false, eval e X.env) :: starEach [] X.env) : PE X (.Call (.Attribute o "count" apos) [e] [] cpos) (tCnt X.K to te) := by
  constructor
  intro pins s σ H Q I h
  refine wpAny_Call_method_late hbase hfew hline rfl (thn (ho.run pins s σ H _ I h) fun v z1 ⟨x, H1, I1, r1, p, xs, ex, ht, q⟩ => ?_)
  subst ex
  cases r1
  obtain ⟨ob, od, oe⟩ := ht
  obtain ⟨g1, _, _, _, ob2, g2, g3, _⟩ := (show ObjOk X.prog X.w H1 z1.heap p (.frz ob (.tup xs)) from I1.hok p _ oe)
  have eo : ob2 = ob := by
    rw [g1] at g2
    exact (Option.some.inj g2).symm
  subst eo
  refine ⟨"tuple", "tuple.count", PySem.F.plainAttrs_tuple, PySem.F.slot_tuple_count, PySem.F.type_tuple_count, ⟨ob2, g2, g3⟩, fun a ea => ?_, ?_⟩
  · cases ea
    exact ⟨ob2, g2, od⟩
  · have ha : PA X [e] (tCons te tNil) := pa_cons he pa_nil hs
    have hA := ha.run cpos pins z1 σ H1 (fun vs H2 => ∃ (ns : List Int) (k : Int), vs = [.int k] ∧ SqT X.K H2 p (ns.map V.int) ∧ Q (.int (ns.count k : Nat)) H2) I1 ?_
    · rw [hs] at hA ⊢
      refine Calls.callWith_builtin (by rfl) (Calls.evalArgs_plain ?_)
      refine thn hA fun us z2 ⟨vs, H2, I2, r2, ns, k, ev, hq, q2⟩ => ?_
      exact mt_tcount pins z2 σ H2 (.ref p) vs (.ref p) us Q I2 rfl r2 ⟨p, ns, k, rfl, ev, hq, q2⟩
    · have mono : te σ H1 fun y H2 => ∃ (ns : List Int) (k : Int), y = .int k ∧ SqT X.K H2 p (ns.map V.int) ∧ Q (.int (ns.count k : Nat)) H2 := q
      have goal : te σ H1 fun y H2 => (∃ (ns : List Int) (k : Int), [y] = [.int k] ∧ SqT X.K H2 p (ns.map V.int) ∧ Q (.int (ns.count k : Nat)) H2) := by
        have z : (fun y H2 => ∃ (ns : List Int) (k : Int), y = V.int k ∧ SqT X.K H2 p (ns.map V.int) ∧ Q (.int (ns.count k : Nat)) H2) =
            (fun y H2 => ∃ (ns : List Int) (k : Int), [y] = [V.int k] ∧ SqT X.K H2 p (ns.map V.int) ∧ Q (.int (ns.count k : Nat)) H2) := by
          funext y H2
          simp
        rw [← z]
        exact mono
      exact goal
end
end Rh

set_option Elab.async false
set_option linter.all false
set_option maxRecDepth 100000
/-! Data in the heap; the state of a body; what an expression's value means there. -/
namespace Rh
open PySem PySem.Spec PyProof.Rows L2

/-- at a stands a dict with these entries (key, where the key's tuple stands, value) -/
def DN (P : Program) (w : World) (a : Addr) (xs : List (NestedKey × Addr × Value)) : Heap → Prop := fun h =>
  (a == sysModules) = false ∧ xs.length ≤ sizeLine ∧ (xs.map (·.1)).Nodup ∧ (∀ x ∈ xs, x.1.depth ≤ 8) ∧
    ∃ o es ep, h.get? a = some o ∧ o.ExactDict ∧ o.data = .dict es ep ∧ es.toList = xs.map (entryOfKey (nestedKind P w))
theorem DN.obj {P : Program} {w : World} {a : Addr} {xs : List (NestedKey × Addr × Value)} {H : Hp} {h : Heap} (x : DN P w a xs h) : ObjOk P w H h a (.ext (DN P w a xs)) := by
  refine ⟨x, ?_, fun h1 h2 y k => ?_⟩
  · obtain ⟨_, _, _, _, o, _, _, e, _⟩ := x
    exact ⟨o, e⟩
  · obtain ⟨z1, z2, z3, z5, o, es, ep, e, z4⟩ := y
    exact ⟨z1, z2, z3, z5, o, es, ep, k o e, z4⟩

/-- the script, as data of its own kind -/
def scrD (ns : List Int) : PyData := .dict [(.str "script", .list (ns.map .int))]

mutual
inductive Rp (P : Program) (w : World) (K : PySem.W.Frag) (F : Hp) : V → PyData → Prop
  | non : Rp P w K F .non .none
  | bl (b : Bool) : Rp P w K F (.bl b) (.bool b)
  | int (i : Int) : Rp P w K F (.int i) (.int i)
  | str (x : Str) : Rp P w K F (.str x) (.str x)
  | lst {a : Addr} {xs : List V} {ds : List PyData} : F a = some (.lst xs) → RpA P w K F xs ds → Rp P w K F (.ref a) (.list ds)
  | tup {a : Addr} {xs : List V} {ds : List PyData} : TupAt F a xs → RpA P w K F xs ds → Rp P w K F (.ref a) (.tuple ds)
  | dic {a : Addr} {xs : List (NestedKey × Addr × Value)} {kvs : List (PyData × PyData)} : F a = some (.ext (DN P w a xs)) → RpD P w K F xs kvs → Rp P w K F (.ref a) (.dict kvs)
  | scr {a : Addr} {ns : List Int} : SqL K F a (ns.map V.int) → Rp P w K F (.ref a) (scrD ns)
inductive RpA (P : Program) (w : World) (K : PySem.W.Frag) (F : Hp) : List V → List PyData → Prop
  | nil : RpA P w K F [] []
  | cons {v : V} {vs : List V} {d : PyData} {ds : List PyData} : Rp P w K F v d → RpA P w K F vs ds → RpA P w K F (v :: vs) (d :: ds)
inductive RpD (P : Program) (w : World) (K : PySem.W.Frag) (F : Hp) : List (NestedKey × Addr × Value) → List (PyData × PyData) → Prop
  | nil : RpD P w K F [] []
  | cons {k : NestedKey} {b : Addr} {u : Value} {v : V} {d : PyData} {xs : List (NestedKey × Addr × Value)} {kvs : List (PyData × PyData)} :
      Rp P w K F (.ref b) k.data → RelV v u → Rp P w K F v d → RpD P w K F xs kvs → RpD P w K F ((k, b, u) :: xs) ((k.data, d) :: kvs)
end

section
variable {P : Program} {w : World} {K : PySem.W.Frag} {F F' H H' : Hp}
mutual
theorem Rp.mono (s : Same F F') : ∀ {v : V} {d : PyData}, Rp P w K F v d → Rp P w K F' v d
  | _, _, .non => .non
  | _, _, .bl b => .bl b
  | _, _, .int i => .int i
  | _, _, .str x => .str x
  | _, _, .lst h r => .lst (s _ _ h) (RpA.mono s r)
  | _, _, .tup h r => .tup (h.mono s) (RpA.mono s r)
  | _, _, .dic h r => .dic (s _ _ h) (RpD.mono s r)
  | _, _, .scr h => .scr (s.seq h)
theorem RpA.mono (s : Same F F') : ∀ {v : List V} {d : List PyData}, RpA P w K F v d → RpA P w K F' v d
  | _, _, .nil => .nil
  | _, _, .cons h r => .cons (Rp.mono s h) (RpA.mono s r)
theorem RpD.mono (s : Same F F') : ∀ {v : List (NestedKey × Addr × Value)} {d : List (PyData × PyData)}, RpD P w K F v d → RpD P w K F' v d
  | _, _, .nil => .nil
  | _, _, .cons h q z r => .cons (Rp.mono s h) q (Rp.mono s z) (RpD.mono s r)
end
theorem RpA.length : ∀ {v : List V} {d : List PyData}, RpA P w K F v d → v.length = d.length
  | _, _, .nil => rfl
  | _, _, .cons _ r => congrArg (· + 1) (RpA.length r)
theorem RpA.get : ∀ {v : List V} {ds : List PyData} {i : Nat} {d : PyData}, RpA P w K F v ds → ds[i]? = some d → ∃ x, v[i]? = some x ∧ Rp P w K F x d
  | _, _, 0, _, .cons h _, e => by
    cases Option.some.inj e
    exact ⟨_, rfl, h⟩
  | _, _, i + 1, _, .cons _ r, e => RpA.get (i := i) r (by simpa using e)
theorem RpA.get' : ∀ {v : List V} {ds : List PyData} {i : Nat} {x : V}, RpA P w K F v ds → v[i]? = some x → ∃ d, ds[i]? = some d ∧ Rp P w K F x d
  | _, _, 0, _, .cons h _, e => by
    cases Option.some.inj e
    exact ⟨_, rfl, h⟩
  | _, _, i + 1, _, .cons _ r, e => RpA.get' (i := i) r (by simpa using e)
theorem RpA.append : ∀ {v v' : List V} {ds ds' : List PyData}, RpA P w K F v ds → RpA P w K F v' ds' → RpA P w K F (v ++ v') (ds ++ ds')
  | _, _, _, _, .nil, q => q
  | _, _, _, _, .cons h r, q => .cons h (RpA.append r q)
theorem RpA.one {v : V} {d : PyData} (h : Rp P w K F v d) : RpA P w K F [v] [d] := .cons h .nil
theorem RpA.take : ∀ (n : Nat) {v : List V} {ds : List PyData}, RpA P w K F v ds → RpA P w K F (v.take n) (ds.take n)
  | 0, _, _, _ => .nil
  | _ + 1, _, _, .nil => .nil
  | n + 1, _, _, .cons h r => .cons h (RpA.take n r)
theorem RpA.drop : ∀ (n : Nat) {v : List V} {ds : List PyData}, RpA P w K F v ds → RpA P w K F (v.drop n) (ds.drop n)
  | 0, _, _, r => r
  | _ + 1, _, _, .nil => .nil
  | n + 1, _, _, .cons h r => RpA.drop n r
theorem RpA.reverse : ∀ {v : List V} {ds : List PyData}, RpA P w K F v ds → RpA P w K F v.reverse ds.reverse
  | _, _, .nil => .nil
  | _, _, .cons h r => by
    rw [List.reverse_cons, List.reverse_cons]
    exact RpA.append (RpA.reverse r) (.one h)
theorem RpA.ints : ∀ {v : List V} {ds : List PyData} {ns : List Int}, RpA P w K F v ds → intsD ds = some ns → v = ns.map V.int
  | _, _, ns, .nil, e => by
    cases Option.some.inj e
    rfl
  | _, _, ns, .cons (d := d) (ds := ds) h r, e => by
    cases d with
    | int i =>
      have e' : (intsD ds).map (i :: ·) = some ns := e
      cases q : intsD ds with
      | none =>
        rw [q] at e'
        cases e'
      | some ms =>
        rw [q] at e'
        cases Option.some.inj e'
        cases h
        rw [RpA.ints r q]
        rfl
    | _ => cases e
theorem RpA.of_ints : ∀ ns : List Int, RpA P w K F (ns.map V.int) (ns.map PyData.int)
  | [] => .nil
  | n :: r => .cons (.int n) (RpA.of_ints r)
mutual
/-- as data of the layer, where there is no dict in it -/
theorem Rp.dp (s : Same F H) : ∀ {d : PyData} {v : V}, Rp P w K F v d → PyData.canLay0 d = true → Dp K H v d
  | .none, _, .non, _ => .non
  | .bool _, _, .bl b, _ => .bl b
  | .int _, _, .int i, _ => .int i
  | .str _, _, .str x, _ => .str x
  | .list ds, _, .lst h r, c => .lst (SqL.of (s _ _ h)) (RpA.dp s r (by simpa [PyData.canLay0] using c))
  | .tuple ds, _, .tup h r, c => .tup (h.mono s).sq (RpA.dp s r (by simpa [PyData.canLay0] using c))
  | .dict _, _, _, c => by simp [PyData.canLay0] at c
theorem RpA.dp (s : Same F H) : ∀ {ds : List PyData} {v : List V}, RpA P w K F v ds → PyData.canLayAll0 ds = true → DpAll K H v ds
  | [], _, .nil, _ => .nil
  | d :: ds, _, .cons h r, c => by
    have c2 : (PyData.canLay0 d && PyData.canLayAll0 ds) = true := by simpa [PyData.canLayAll0] using c
    rw [Bool.and_eq_true] at c2
    exact .cons (Rp.dp s h c2.1) (RpA.dp s r c2.2)
end
theorem shaped_lay {d : PyData} (h : SeqAt.shaped d = true) : PyData.canLay0 d = true := by
  have h2 : (d.canLay0 && decide (d.depth ≤ 64)) = true := h
  rw [Bool.and_eq_true] at h2
  exact h2.1

/-! ### the heap grows -/
structure Ext (F H F' H' : Hp) : Prop where
  ff : Same F F'
  fh : Same F' H'
  hh : Same H H'
  new : ∀ b o, F' b = some o → F b = some o ∨ H b = none
theorem Ext.refl (s : Same F H) : Ext F H F H := ⟨Same.refl _, s, Same.refl _, fun _ _ h => .inl h⟩
theorem Ext.trans {F1 H1 F2 H2 : Hp} (a : Ext F H F1 H1) (b : Ext F1 H1 F2 H2) : Ext F H F2 H2 :=
  ⟨a.ff.trans b.ff, b.fh, a.hh.trans b.hh, fun c o h => by
    rcases b.new c o h with z | z
    · exact a.new c o z
    · exact .inr (a.hh.free z)⟩
theorem same_upd {F : Hp} {o : HO} {p : Addr} (n : F p = none) : Same F (upd F p o) := fun b x e => by
  rw [upd_ne (ne_of_none e n)]
  exact e
theorem Ext.alloc {o : HO} {p : Addr} (s : Same F H) (n : H p = none) : Ext F H (upd F p o) (upd H p o) := by
  have nf : F p = none := s.free n
  refine ⟨same_upd nf, fun b x e => ?_, same_upd n, fun b x e => ?_⟩
  · by_cases hb : b = p
    · subst hb
      rw [upd_same] at e ⊢
      exact e
    · rw [upd_ne hb] at e ⊢
      exact s _ _ e
  · by_cases hb : b = p
    · subst hb
      exact .inr n
    · rw [upd_ne hb] at e
      exact .inl e
/-- the heap alone grows -/
theorem Ext.heap {p : Addr} {o : HO} (s : Same F H) (n : H p = none) : Ext F H F (upd H p o) :=
  ⟨Same.refl _, s.trans (same_upd n), same_upd n, fun _ _ h => .inl h⟩
end

/-! ### the state of a body -/
/-- program, world, written part -/
structure Wd where
  prog : Program
  w : World
  K : PySem.W.Frag
abbrev wd (X : Cx) : Wd := ⟨X.prog, X.w, X.K⟩
instance : Coe Cx Wd := ⟨wd⟩
/-- what the body leans on: constants of the module, the defs one level below, the classes of errors, the heap at the entry, what is wished of an error -/
structure Mo where
  g : Str → Option PyData
  f : Str → List PyData → Res PyData
  C : Str → Option Addr
  H0 : Hp
  W : WX
abbrev RP (X : Wd) (F : Hp) (v : V) (d : PyData) : Prop := Rp X.prog X.w X.K F v d
abbrev RPA (X : Wd) (F : Hp) (v : List V) (d : List PyData) : Prop := RpA X.prog X.w X.K F v d
/-- an own object -/
def Ow (X : Wd) (F H : Hp) (p : Addr) : PyData → Prop
  | .list ds => ∃ xs, H p = some (.lst xs) ∧ RPA X F xs ds
  | .dict kvs => ∃ xs, H p = some (.ext (DN X.prog X.w p xs)) ∧ RpD X.prog X.w X.K F xs kvs
  | _ => False
structure En (X : Wd) (m : Mo) (F H : Hp) (σ : L2.St) (δ : Ev) : Prop where
  sub : Same F H
  old : Same m.H0 H
  len : δ.length = σ.length
  sh : ∀ (i : Nat) (d : PyData), δ[i]? = some (some (.sh d)) → ∃ v, σ[i]? = some (some v) ∧ RP X F v d
  own : ∀ (i : Nat) (d : PyData), δ[i]? = some (some (.own d)) → ∃ p, σ[i]? = some (some (.ref p)) ∧ F p = none ∧ m.H0 p = none ∧ Ow X F H p d
  apart : ∀ (i j : Nat) (d e : PyData) (p : Addr), i ≠ j → δ[i]? = some (some (.own d)) → δ[j]? = some (some (.own e)) → σ[i]? = some (some (.ref p)) → σ[j]? ≠ some (some (.ref p))
section
variable {X : Wd} {m : Mo} {F H F' H' : Hp} {σ : L2.St} {δ : Ev}
theorem Ow.some {p : Addr} {d : PyData} (h : Ow X F H p d) : ∃ o, H p = some o := by
  cases d with
  | list ds =>
    obtain ⟨xs, e, _⟩ := h
    exact ⟨_, e⟩
  | dict ds =>
    obtain ⟨xs, e, _⟩ := h
    exact ⟨_, e⟩
  | _ => exact h.elim
theorem Ow.ext {p : Addr} {d : PyData} (x : Ext F H F' H') (h : Ow X F H p d) : Ow X F' H' p d := by
  cases d with
  | list ds =>
    obtain ⟨xs, e, r⟩ := h
    exact ⟨xs, x.hh _ _ e, r.mono x.ff⟩
  | dict ds =>
    obtain ⟨xs, e, r⟩ := h
    exact ⟨xs, x.hh _ _ e, r.mono x.ff⟩
  | _ => exact h.elim
theorem En.ext (x : Ext F H F' H') (h : En X m F H σ δ) : En X m F' H' σ δ := by
  refine ⟨x.fh, h.old.trans x.hh, h.len, fun i d e => ?_, fun i d e => ?_, h.apart⟩
  · obtain ⟨v, q, r⟩ := h.sh i d e
    exact ⟨v, q, r.mono x.ff⟩
  · obtain ⟨p, q, n, n0, r⟩ := h.own i d e
    refine ⟨p, q, ?_, n0, r.ext x⟩
    obtain ⟨o, ho⟩ := r.some
    cases z : F' p with
    | none => rfl
    | some u =>
      rcases x.new p u z with y | y
      · rw [n] at y
        cases y
      · rw [ho] at y
        cases y

/-! ### what a value means -/
def Rz (X : Wd) (m : Mo) (σ : L2.St) (F H : Hp) : Res PyData → VK → Prop
  | .ok d, Q => ∀ v F' H', Ext F H F' H' → RP X F' v d → Q v H'
  | .err x, _ => ∃ C, m.C x = some C ∧ ∀ H', Same H H' → m.W (.ref C) none σ H'
  | .stuck, _ => False
def RzA (X : Wd) (m : Mo) (σ : L2.St) (F H : Hp) : Res (List PyData) → (List V → Hp → Prop) → Prop
  | .ok d, Q => ∀ v F' H', Ext F H F' H' → RPA X F' v d → Q v H'
  | .err x, _ => ∃ C, m.C x = some C ∧ ∀ H', Same H H' → m.W (.ref C) none σ H'
  | .stuck, _ => False
def RzB (X : Wd) (m : Mo) (σ : L2.St) (F H : Hp) : Res Bool → (Bool → Hp → Prop) → Prop
  | .ok d, Q => ∀ F' H', Ext F H F' H' → Q d H'
  | .err x, _ => ∃ C, m.C x = some C ∧ ∀ H', Same H H' → m.W (.ref C) none σ H'
  | .stuck, _ => False
def T (X : Wd) (m : Mo) (c : DE) : TE := fun σ H Q => ∃ F δ, En X m F H σ δ ∧ Rz X m σ F H (ev m.g m.f c δ) Q
def TL (X : Wd) (m : Mo) (c : DEs) : TA := fun σ H Q => ∃ F δ, En X m F H σ δ ∧ RzA X m σ F H (evs m.g m.f c δ) Q
/-- as a test -/
def evt (g : Str → Option PyData) (f : Str → List PyData → Res PyData) (c : DE) (δ : Ev) : Res Bool := (ev g f c δ).bind fun x => .ofO (truth x)
def TB (X : Wd) (m : Mo) (c : DE) : TT := fun σ H Q => ∃ F δ, En X m F H σ δ ∧ RzB X m σ F H (evt m.g m.f c δ) Q
end
theorem _root_.L2.PE.imp {X : Cx} {e : Expr} {t t' : TE} (h : PE X e t) (i : ∀ σ H Q, t' σ H Q → t σ H Q) : PE X e t' := ⟨fun pins s σ H Q I q => h.run pins s σ H Q I (i σ H Q q)⟩
theorem _root_.L2.PT.imp {X : Cx} {e : Expr} {t t' : TT} (h : PT X e t) (i : ∀ σ H Q, t' σ H Q → t σ H Q) : PT X e t' := ⟨fun pins s σ H Q I q => h.run pins s σ H Q I (i σ H Q q)⟩
theorem _root_.L2.PA.imp {X : Cx} {e : List Expr} {t t' : TA} (h : PA X e t) (i : ∀ σ H Q, t' σ H Q → t σ H Q) : PA X e t' := ⟨fun pos pins s σ H Q I q => h.run pos pins s σ H Q I (i σ H Q q)⟩
theorem _root_.L2.PS.imp {X : Cx} {e : Stmt} {t t' : TS} (h : PS X e t) (i : ∀ D σ H, t' D σ H → t D σ H) : PS X e t' := ⟨fun pins s σ H D I q => h.run pins s σ H D I (i D σ H q)⟩
theorem _root_.L2.PSs.imp {X : Cx} {e : List Stmt} {t t' : TS} (h : PSs X e t) (i : ∀ D σ H, t' D σ H → t D σ H) : PSs X e t' := ⟨fun pins s σ H D I q => h.run pins s σ H D I (i D σ H q)⟩
end Rh

set_option Elab.async false
set_option linter.all false
set_option maxRecDepth 100000
set_option maxHeartbeats 1000000
/-! Expressions, one by one: their rules of the layer, read over data. -/
namespace Rh
open PySem PySem.Spec PyProof.Rows L2
section
variable {X : Cx} {m : Mo} {F H F' H' : Hp} {σ : L2.St} {δ : Ev}

/-- an error passes through the heap's growth -/
theorem err_on {x : Str} {H1 : Hp} (s : Same H H1) (h : ∃ C, m.C x = some C ∧ ∀ H', Same H H' → m.W (.ref C) none σ H') : ∃ C, m.C x = some C ∧ ∀ H', Same H1 H' → m.W (.ref C) none σ H' := by
  obtain ⟨C, e, q⟩ := h
  exact ⟨C, e, fun H' s' => q H' (s.trans s')⟩
/-- one part, then what is made of its value -/
theorem T.one {c : DE} {k : PyData → Res PyData} {Q : VK} (E : En X m F H σ δ) (h : Rz X m σ F H ((ev m.g m.f c δ).bind k) Q)
    {R : V → Hp → Prop} (hk : ∀ d v F1 H1, Ext F H F1 H1 → En X m F1 H1 σ δ → RP X F1 v d → ev m.g m.f c δ = .ok d → Rz X m σ F1 H1 (k d) Q → R v H1) : T X m c σ H R := by
  refine ⟨F, δ, E, ?_⟩
  cases e : ev m.g m.f c δ with
  | ok d =>
    rw [e] at h
    intro v F1 H1 x r
    refine hk d v F1 H1 x (E.ext x) r e ?_
    have h' : Rz X m σ F H (k d) Q := h
    cases q : k d with
    | ok d2 =>
      rw [q] at h'
      exact fun v2 F2 H2 x2 r2 => h' v2 F2 H2 (x.trans x2) r2
    | err z =>
      rw [q] at h'
      exact err_on x.hh h'
    | stuck =>
      rw [q] at h'
      exact h'
  | err z =>
    rw [e] at h
    exact h
  | stuck =>
    rw [e] at h
    exact h
/-- the same for a list of parts -/
theorem TL.one {c : DEs} {k : List PyData → Res PyData} {Q : VK} (E : En X m F H σ δ) (h : Rz X m σ F H ((evs m.g m.f c δ).bind k) Q)
    {R : List V → Hp → Prop} (hk : ∀ d v F1 H1, Ext F H F1 H1 → En X m F1 H1 σ δ → RPA X F1 v d → Rz X m σ F1 H1 (k d) Q → R v H1) : TL X m c σ H R := by
  refine ⟨F, δ, E, ?_⟩
  cases e : evs m.g m.f c δ with
  | ok d =>
    rw [e] at h
    intro v F1 H1 x r
    refine hk d v F1 H1 x (E.ext x) r ?_
    have h' : Rz X m σ F H (k d) Q := h
    cases q : k d with
    | ok d2 =>
      rw [q] at h'
      exact fun v2 F2 H2 x2 r2 => h' v2 F2 H2 (x.trans x2) r2
    | err z =>
      rw [q] at h'
      exact err_on x.hh h'
    | stuck =>
      rw [q] at h'
      exact h'
  | err z =>
    rw [e] at h
    exact h
  | stuck =>
    rw [e] at h
    exact h
/-- two parts -/
theorem T.two {a b : DE} {k : PyData → PyData → Res PyData} {Q : VK} (E : En X m F H σ δ) (h : Rz X m σ F H ((ev m.g m.f a δ).bind fun x => (ev m.g m.f b δ).bind fun y => k x y) Q)
    {R : V → V → Hp → Prop} (hk : ∀ da va db vb F1 H1, Ext F H F1 H1 → En X m F1 H1 σ δ → RP X F1 va da → RP X F1 vb db → Rz X m σ F1 H1 (k da db) Q → R va vb H1) :
    T X m a σ H fun x H1 => T X m b σ H1 fun y H2 => R x y H2 := by
  refine T.one E h fun da va F1 H1 x1 E1 r1 _ h1 => ?_
  exact T.one E1 h1 fun db vb F2 H2 x2 E2 r2 _ h2 => hk da va db vb F2 H2 (x1.trans x2) E2 (r1.mono x2.ff) r2 h2
theorem ofO_some {o : Option PyData} {Q : VK} (h : Rz X m σ F H (.ofO o) Q) : ∃ d, o = some d ∧ ∀ v F' H', Ext F H F' H' → RP X F' v d → Q v H' := by
  cases o with
  | none => exact h.elim
  | some d => exact ⟨d, rfl, h⟩

/-! ### atoms -/
theorem e_var {i : Nat} {x : Str} {pos : Pos} (hN : X.N[i]? = some x) (hv : Vis X.env.scope x) (hd : (x == ("__debug__" : Str)) = false) (hcd : (x == ("__classdict__" : Str)) = false) : PE X (.Name x pos) (T X m (.var i)) := by
  refine (pe_var hN hv hd hcd).imp fun σ H Q ⟨F, δ, E, h⟩ => ?_
  show ∃ v, σ[i]? = some (some v) ∧ Q v H
  have h' : Rz X m σ F H (match δ[i]? with | some (some (.sh d)) => .ok d | _ => .stuck) Q := h
  split at h'
  · rename_i d e
    obtain ⟨v, e1, r⟩ := E.sh i d e
    exact ⟨v, e1, h' v F H (.refl E.sub) r⟩
  · exact h'.elim
theorem e_int {n : Int} {j pos} : PE X (.Constant (.int n) j pos) (T X m (.int n)) := pe_int.imp fun σ H Q ⟨F, δ, E, h⟩ => h _ F H (.refl E.sub) (.int n)
theorem e_str {n : Str} {j pos} : PE X (.Constant (.str n) j pos) (T X m (.str n)) := pe_str.imp fun σ H Q ⟨F, δ, E, h⟩ => h _ F H (.refl E.sub) (.str n)
theorem e_bl {n : Bool} {j pos} : PE X (.Constant (.bool n) j pos) (T X m (.bl n)) := pe_bl.imp fun σ H Q ⟨F, δ, E, h⟩ => h _ F H (.refl E.sub) (.bl n)
theorem e_non {j pos} : PE X (.Constant .none j pos) (T X m .non) := pe_non.imp fun σ H Q ⟨F, δ, E, h⟩ => h _ F H (.refl E.sub) .non
theorem e_neg {n : Int} {j pos p2} : PE X (.UnaryOp .USub (.Constant (.int n) j pos) p2) (T X m (.neg n)) :=
  (pe_un un_neg pe_int).imp fun σ H Q ⟨F, δ, E, h⟩ => ⟨n, rfl, h _ F H (.refl E.sub) (.int _)⟩

/-! ### displays -/
theorem a_nil : PA X [] (TL X m .nil) := pa_nil.imp fun σ H Q ⟨F, δ, E, h⟩ => h [] F H (.refl E.sub) .nil
theorem a_cons {e : Expr} {es : List Expr} {c : DE} {cs : DEs} (h1 : PE X e (T X m c)) (h2 : PA X es (TL X m cs)) (hs : starEach (e :: es) X.env = (false, eval e X.env) :: starEach es X.env) : PA X (e :: es) (TL X m (.cons c cs)) := by
  refine (pa_cons h1 h2 hs).imp fun σ H Q ⟨F, δ, E, h⟩ => ?_
  have h' : RzA X m σ F H ((ev m.g m.f c δ).bind fun x => (evs m.g m.f cs δ).bind fun xs => .ok (x :: xs)) Q := h
  refine ⟨F, δ, E, ?_⟩
  cases e1 : ev m.g m.f c δ with
  | err z =>
    rw [e1] at h'
    exact h'
  | stuck =>
    rw [e1] at h'
    exact h'
  | ok d =>
    rw [e1] at h'
    intro v F1 H1 x r
    refine ⟨F1, δ, E.ext x, ?_⟩
    have h2' : RzA X m σ F H ((evs m.g m.f cs δ).bind fun xs => .ok (d :: xs)) Q := h'
    cases e2 : evs m.g m.f cs δ with
    | err z =>
      rw [e2] at h2'
      exact err_on x.hh h2'
    | stuck =>
      rw [e2] at h2'
      exact h2'
    | ok ds =>
      rw [e2] at h2'
      intro vs F2 H2 x2 r2
      exact h2' (v :: vs) F2 H2 (x.trans x2) (.cons (r.mono x2.ff) r2)
theorem lim_line {n : Nat} (h : n ≤ lim) : n ≤ sizeLine := by
  have e : lim = 1000000 := rfl
  rw [sizeLine_eq]
  omega
theorem e_tup {es : List Expr} {x1 pos} {cs : DEs} (h1 : PA X es (TL X m cs)) : PE X (.Tuple es x1 pos) (T X m (.tup cs)) := by
  refine (pe_tupF h1).imp fun σ H Q ⟨F, δ, E, h⟩ => ?_
  refine TL.one E h fun d v F1 H1 x E1 r h1 => ?_
  by_cases hl : d.length ≤ lim
  · rw [if_pos hl] at h1
    refine ⟨by rw [r.length]; exact lim_line hl, fun p o od np => ?_⟩
    exact h1 _ _ _ (.alloc E1.sub np) (.tup (.new od) (r.mono (same_upd (E1.sub.free np))))
  · rw [if_neg hl] at h1
    exact h1.elim
theorem e_lst {es : List Expr} {pos} {cs : DEs} (h1 : PA X es (TL X m cs)) : PE X (.List es pos) (T X m (.lst cs)) := by
  refine (pe_lst h1).imp fun σ H Q ⟨F, δ, E, h⟩ => ?_
  refine TL.one E h fun d v F1 H1 x E1 r h1 => ?_
  by_cases hl : d.length ≤ lim
  · rw [if_pos hl] at h1
    refine ⟨by rw [r.length]; exact lim_line hl, fun p np => ?_⟩
    exact h1 _ (upd F1 p (.lst v)) _ (.alloc E1.sub np) (.lst upd_same (r.mono (same_upd (E1.sub.free np))))
  · rw [if_neg hl] at h1
    exact h1.elim

/-! ### operators -/
/-- an operator over data -/
def rD (X : Cx) (o : PyData → PyData → Option PyData) : R2 := fun x y H Q => ∃ F dx dy d, Same F H ∧ RP X F x dx ∧ RP X F y dy ∧ o dx dy = some d ∧ ∀ v F' H', Ext F H F' H' → RP X F' v d → Q v H'
theorem len_ne {α β : Type} {xs : List α} {ys : List β} (h : xs.length = ys.length) : xs = [] ↔ ys = [] := by
  constructor
  · intro e
    rw [e] at h
    exact List.eq_nil_of_length_eq_zero h.symm
  · intro e
    rw [e] at h
    exact List.eq_nil_of_length_eq_zero h
theorem mulOk_ok {i j : Int} (h : mulOk i j = true) : CMul i j := mulOk_iff.mp h
theorem RpA.rep {P : Program} {w : World} {K : PySem.W.Frag} {F : Hp} : ∀ (n : Nat) {v : List V} {ds : List PyData}, RpA P w K F v ds → RpA P w K F (List.replicate n v).flatten (List.replicate n ds).flatten
  | 0, _, _, _ => .nil
  | n + 1, _, _, r => by
    rw [List.replicate_succ, List.replicate_succ, List.flatten_cons, List.flatten_cons]
    exact r.append (RpA.rep n r)
theorem bin_ok (op : Operator) : OpR X (binaryOp op) (rD X (binD op)) := by
  intro pins s σ H x y v u Q I rx ry ⟨F, dx, dy, d, sF, hx, hy, e, q⟩
  unfold binD at e
  split at e
  · cases hx; cases hy; cases e
    exact op_add pins s σ H _ _ v u Q I rx ry ⟨_, _, rfl, rfl, q _ F H (.refl sF) (.int _)⟩
  · rename_i xs ys
    split at e
    · rename_i hl
      cases e
      cases hx with
      | @tup a vs _ ha ra =>
        cases hy with
        | @tup b ws _ hb rb =>
          refine op_catF pins s σ H _ _ v u Q I rx ry ⟨a, b, vs, ws, rfl, rfl, (ha.mono sF).sq, (hb.mono sF).sq, ?_, fun z => ?_, fun _ z => ?_, fun _ _ p o od np => ?_⟩
          · rw [ra.length, rb.length]
            exact lim_line hl
          · have z2 := (len_ne ra.length).mp z
            subst z z2
            exact q _ F H (.refl sF) (.tup hb rb)
          · have z2 := (len_ne rb.length).mp z
            subst z z2
            refine q _ F H (.refl sF) ?_
            rw [List.append_nil]
            exact .tup ha ra
          · exact q _ _ _ (.alloc sF np) (.tup (.new od) ((ra.append rb).mono (same_upd (sF.free np))))
    · cases e
  · rename_i xs ys
    split at e
    · rename_i hl
      cases e
      cases hx with
      | @lst a vs _ ha ra =>
        cases hy with
        | @lst b ws _ hb rb =>
          refine op_cat pins s σ H _ _ v u Q I rx ry ⟨a, b, vs, ws, rfl, rfl, sF _ _ ha, sF _ _ hb, ?_, fun p np => ?_⟩
          · rw [ra.length, rb.length]
            exact lim_line hl
          · exact q _ _ _ (.alloc sF np) (.lst upd_same ((ra.append rb).mono (same_upd (sF.free np))))
    · cases e
  · cases hx; cases hy; cases e
    exact op_sub pins s σ H _ _ v u Q I rx ry ⟨_, _, rfl, rfl, q _ F H (.refl sF) (.int _)⟩
  · split at e
    · rename_i hm
      cases hx; cases hy; cases e
      exact op_mul pins s σ H _ _ v u Q I rx ry ⟨_, _, rfl, rfl, mulOk_ok hm, q _ F H (.refl sF) (.int _)⟩
    · cases e
  · split at e
    · rename_i hm
      cases hx; cases hy; cases e
      exact op_mod pins s σ H _ _ v u Q I rx ry ⟨_, _, rfl, rfl, hm, q _ F H (.refl sF) (.int _)⟩
    · cases e
  · split at e
    · rename_i i j hm
      cases hx; cases hy; cases e
      obtain ⟨h1, h2⟩ : 0 ≤ j ∧ (Builtin.Int.intBits i : Int) * j ≤ 2 ^ 27 := of_decide_eq_true hm
      obtain ⟨t, rfl⟩ := rx
      obtain ⟨t', rfl⟩ := ry
      exact pow_int h1 h2 ⟨.int _, H, I.tok _, ⟨_, rfl⟩, q _ F H (.refl sF) (.int _)⟩
    · cases e
  · split at e
    · rename_i hm
      cases hx; cases hy; cases e
      exact op_fdiv pins s σ H _ _ v u Q I rx ry ⟨_, _, rfl, rfl, ⟨hm.1, by have := hm.2; omega⟩, q _ F H (.refl sF) (.int _)⟩
    · cases e
  · split at e
    · rename_i i j hm
      cases hx; cases hy; cases e
      obtain ⟨rfl, h1, h2⟩ := hm
      refine op_oneShl pins s σ H _ _ v u Q I rx ry ⟨j.toNat, rfl, ?_, by omega, q _ F H (.refl sF) (.int _)⟩
      rw [Int.toNat_of_nonneg h1]
    · cases e
  · split at e
    · rename_i hm
      cases hx; cases hy; cases e
      exact op_shr pins s σ H _ _ v u Q I rx ry ⟨_, _, rfl, rfl, hm, q _ F H (.refl sF) (.int _)⟩
    · cases e
  · split at e
    · rename_i hm
      cases hx; cases hy; cases e
      subst hm
      exact op_andM pins s σ H _ _ v u Q I rx ry ⟨_, 1, rfl, rfl, q _ F H (.refl sF) (.int _)⟩
    · cases e
  · split at e
    · rename_i xs k hm
      cases e
      cases hy
      cases hx with
      | @tup a vs _ ha ra =>
        obtain ⟨m1, m2, m3, m4⟩ := hm
        have lv : vs.length = xs.length := ra.length
        refine op_repF pins s σ H _ _ v u Q I rx ry ⟨a, k, vs, rfl, rfl, (ha.mono sF).sq, fun z => by rw [z] at lv; simp at lv; omega, m3, m4, by omega, fun z => ?_, fun z p o od np => ?_⟩
        · subst z
          refine q _ F H (.refl sF) ?_
          have e1 : (List.replicate (Int.toNat 1) xs).flatten = xs := by simp
          rw [e1]
          exact .tup ha ra
        · exact q _ _ _ (.alloc sF np) (.tup (.new od) ((RpA.rep k.toNat ra).mono (same_upd (sF.free np))))
    · cases e
  · split at e
    · rename_i xs k hm
      cases e
      cases hy
      cases hx with
      | @lst a vs _ ha ra =>
        obtain ⟨m1, m2, m3⟩ := hm
        have lv : vs.length = xs.length := ra.length
        refine op_rep pins s σ H _ _ v u Q I rx ry ⟨a, k, vs, rfl, rfl, sF _ _ ha, by omega, by omega, ?_, fun p np => ?_⟩
        · rw [sizeLine_eq, lv]
          have z : xs.length * k.toNat ≤ 1000 * 1000 := Nat.mul_le_mul m1 (by omega)
          omega
        · exact q _ _ _ (.alloc sF np) (.lst upd_same ((RpA.rep k.toNat ra).mono (same_upd (sF.free np))))
    · cases e
  · cases e
theorem e_bin {op : Operator} {l r : Expr} {a b : DE} {pos : Pos} (h1 : PE X l (T X m a)) (h2 : PE X r (T X m b)) : PE X (.BinOp l op r pos) (T X m (.bin op a b)) := by
  refine (pe_op (bin_ok op) h1 h2).imp fun σ H Q ⟨F, δ, E, h⟩ => ?_
  refine T.two E h fun da va db vb F1 H1 x E1 ra rb hq => ?_
  obtain ⟨d, e, q⟩ := ofO_some hq
  exact ⟨F1, da, db, d, E1.sub, ra, rb, e, q⟩
end
end Rh

set_option Elab.async false
set_option linter.all false
set_option maxRecDepth 100000
set_option maxHeartbeats 1000000
/-! Comparisons, tests, places, slices. -/
namespace Rh
open PySem PySem.Spec PyProof.Rows L2
section
variable {X : Cx} {m : Mo} {F H F' H' : Hp} {σ : L2.St} {δ : Ev}
theorem eqD_some {a b : PyData} {k : Bool} (h : eqD a b = some k) : SeqAt.shaped a = true ∧ SeqAt.shaped b = true ∧ k = PyData.eqv a b := by
  unfold eqD at h
  split at h
  · rename_i q
    rw [Bool.and_eq_true] at q
    exact ⟨q.1, q.2, (Option.some.inj h).symm⟩
  · cases h
theorem inD_some {a : PyData} {ys : List PyData} {k : Bool} (h : inD a ys = some k) : SeqAt.shaped a = true ∧ SeqAt.shaped (.list ys) = true ∧ k = ys.any fun y => PyData.eqv y a := by
  unfold inD at h
  split at h
  · rename_i q
    rw [Bool.and_eq_true] at q
    exact ⟨q.1, q.2, (Option.some.inj h).symm⟩
  · cases h
theorem lexAt_shift (e r : Nat → Bool) (z : Bool) : ∀ (k i : Nat), Ob.lexAt e r z (i + 1) k = Ob.lexAt (fun j => e (j + 1)) (fun j => r (j + 1)) z i k
  | 0, _ => rfl
  | k + 1, i => by
    rw [Ob.lexAt_succ, Ob.lexAt_succ, lexAt_shift e r z k (i + 1)]
theorem lexAt_le : ∀ ns ms : List Int, Ob.lexAt (fun j => decide (ns.getD j 0 = ms.getD j 0)) (fun j => decide (ns.getD j 0 ≤ ms.getD j 0)) (decide (ns.length ≤ ms.length)) 0 (min ns.length ms.length) = !HT.lexLt ms ns
  | [], ms => by
    cases ms <;> simp [Ob.lexAt_zero, HT.lexLt]
  | n :: ns, [] => by simp [Ob.lexAt_zero, HT.lexLt]
  | n :: ns, k :: ms => by
    have ih := lexAt_le ns ms
    have e1 : min (n :: ns).length (k :: ms).length = min ns.length ms.length + 1 := by simp [List.length_cons]
    rw [e1, Ob.lexAt_succ, lexAt_shift]
    have e2 : decide ((n :: ns).length ≤ (k :: ms).length) = decide (ns.length ≤ ms.length) := by simp
    rw [e2]
    show (if decide (n = k) = true then Ob.lexAt (fun j => decide (ns.getD j 0 = ms.getD j 0)) (fun j => decide (ns.getD j 0 ≤ ms.getD j 0)) (decide (ns.length ≤ ms.length)) 0 (min ns.length ms.length) else decide (n ≤ k)) = !HT.lexLt (k :: ms) (n :: ns)
    rw [ih, HT.lexLt_cons]
    by_cases h : n = k
    · subst h
      simp
    · rw [if_neg (by simpa using h), if_neg (fun z => h z.symm)]
      by_cases h2 : n ≤ k
      · simp [h2]
      · simp [h2]
        omega
theorem shaped_items {ds : List PyData} (h : SeqAt.shaped (.list ds) = true) : PyData.canLayAll0 ds = true := by
  have h2 := shaped_lay h
  simpa [PyData.canLay0] using h2
/-- a comparison over data -/
theorem cmp_ok (op : CmpOp) (hu : X.A.units + 100 < cLine) : OpR X (compareOp op) (rD X fun a b => (cmpD op a b).map .bool) := by
  intro pins s σ H x y v u Q I rx ry ⟨F, dx, dy, d, sF, hx, hy, e, q⟩
  obtain ⟨k, ek, rfl⟩ := Option.map_eq_some_iff.mp e
  have fin : ∀ k', k' = k → Q (.bl k') H := fun k' z => by
    subst z
    exact q _ F H (.refl sF) (.bl _)
  clear q e
  unfold cmpD at ek
  split at ek
  · obtain ⟨s1, s2, z⟩ := eqD_some ek
    exact op_eqD (by omega) pins s σ H x y v u Q I rx ry ⟨dx, dy, hx.dp sF (shaped_lay s1), hy.dp sF (shaped_lay s2), s1, s2, fin _ z.symm⟩
  · obtain ⟨k', ek', z⟩ := Option.map_eq_some_iff.mp ek
    obtain ⟨s1, s2, z'⟩ := eqD_some ek'
    exact op_neD (by omega) pins s σ H x y v u Q I rx ry ⟨dx, dy, hx.dp sF (shaped_lay s1), hy.dp sF (shaped_lay s2), s1, s2, fin _ (by rw [← z, z'])⟩
  · cases hx; cases hy
    exact op_lt pins s σ H _ _ v u Q I rx ry ⟨_, _, rfl, rfl, fin _ (Option.some.inj ek)⟩
  · cases hx; cases hy
    exact op_le pins s σ H _ _ v u Q I rx ry ⟨_, _, rfl, rfl, fin _ (Option.some.inj ek)⟩
  · cases hx; cases hy
    exact op_gt pins s σ H _ _ v u Q I rx ry ⟨_, _, rfl, rfl, fin _ (Option.some.inj ek)⟩
  · cases hx; cases hy
    exact op_ge pins s σ H _ _ v u Q I rx ry ⟨_, _, rfl, rfl, fin _ (Option.some.inj ek)⟩
  · rename_i xs ys
    obtain ⟨ns, e1, ek⟩ := Option.bind_eq_some_iff.mp ek
    obtain ⟨ms, e2, ek⟩ := Option.map_eq_some_iff.mp ek
    cases hx with
    | @tup a vs _ ha ra =>
      cases hy with
      | @tup b ws _ hb rb =>
        have z1 := ra.ints e1
        have z2 := rb.ints e2
        subst z1 z2
        exact op_ltT (by omega) pins s σ H _ _ v u Q I rx ry ⟨a, b, ns, ms, rfl, rfl, (ha.mono sF).sq, (hb.mono sF).sq, fin _ ek⟩
  · rename_i xs ys
    obtain ⟨ns, e1, ek⟩ := Option.bind_eq_some_iff.mp ek
    obtain ⟨ms, e2, ek⟩ := Option.map_eq_some_iff.mp ek
    cases hx with
    | @tup a vs _ ha ra =>
      cases hy with
      | @tup b ws _ hb rb =>
        have z1 := ra.ints e1
        have z2 := rb.ints e2
        subst z1 z2
        exact op_leT (by omega) pins s σ H _ _ v u Q I rx ry ⟨a, b, ns, ms, rfl, rfl, (ha.mono sF).sq, (hb.mono sF).sq, fin _ (by rw [lexAt_le]; exact ek)⟩
  · rename_i ys
    obtain ⟨s1, s2, z⟩ := inD_some ek
    exact op_inD (by omega) pins s σ H x y v u Q I rx ry ⟨dx, ys, hx.dp sF (shaped_lay s1), hy.dp sF (shaped_lay s2), s1, s2, fin _ z.symm⟩
  · rename_i ys
    obtain ⟨s1, s2, z⟩ := inD_some ek
    obtain ⟨as, r1⟩ := Dp.reads I dx x v (hx.dp sF (shaped_lay s1)) rx
    have lay : PyData.canLay0 (.tuple ys) = true := by simpa [PyData.canLay0] using shaped_items s2
    obtain ⟨bs, r2⟩ := Dp.reads I (.tuple ys) y u (hy.dp sF lay) ry
    exact SeqAt.in_tuple_reads r2 r1 (shaped_items s2) (shaped_lay s1) (room_in_shaped s1 (by omega)) ⟨.bl _, H, I, rfl, fin _ z.symm⟩
  · rename_i ys
    obtain ⟨k', ek', z⟩ := Option.map_eq_some_iff.mp ek
    obtain ⟨s1, s2, z'⟩ := inD_some ek'
    exact op_notInD (by omega) pins s σ H x y v u Q I rx ry ⟨dx, ys, hx.dp sF (shaped_lay s1), hy.dp sF (shaped_lay s2), s1, s2, fin _ (by rw [← z, z'])⟩
  · rename_i ys
    obtain ⟨k', ek', z⟩ := Option.map_eq_some_iff.mp ek
    obtain ⟨s1, s2, z'⟩ := inD_some ek'
    obtain ⟨as, r1⟩ := Dp.reads I dx x v (hx.dp sF (shaped_lay s1)) rx
    have lay : PyData.canLay0 (.tuple ys) = true := by simpa [PyData.canLay0] using shaped_items s2
    obtain ⟨bs, r2⟩ := Dp.reads I (.tuple ys) y u (hy.dp sF lay) ry
    exact SeqAt.notIn_tuple_reads r2 r1 (shaped_items s2) (shaped_lay s1) (room_in_shaped s1 (by omega)) ⟨.bl _, H, I, rfl, fin _ (by rw [← z, z'])⟩
  · cases hx; cases hy
    exact op_isN pins s σ H _ _ v u Q I rx ry ⟨rfl, fin _ (Option.some.inj ek)⟩
  · cases hx; cases hy
    exact op_notN pins s σ H _ _ v u Q I rx ry ⟨rfl, fin _ (Option.some.inj ek)⟩
  · cases hy
    refine op_isN pins s σ H _ _ v u Q I rx ry ⟨rfl, fin _ ?_⟩
    rw [← Option.some.inj ek]
    cases hx <;> rfl
  · cases hy
    refine op_notN pins s σ H _ _ v u Q I rx ry ⟨rfl, fin _ ?_⟩
    rw [← Option.some.inj ek]
    cases hx <;> rfl
  · cases ek
theorem e_cmp {op : CmpOp} {l r : Expr} {a b : DE} {pos : Pos} (hu : X.A.units + 100 < cLine) (h1 : PE X l (T X m a)) (h2 : PE X r (T X m b)) (hm : behindInMarks op r = false) : PE X (.Compare l [op] [r] pos) (T X m (.cmp op a b)) := by
  refine (pe_cmpR (cmp_ok op hu) h1 h2 hm).imp fun σ H Q ⟨F, δ, E, h⟩ => ?_
  refine T.two E h fun da va db vb F1 H1 x E1 ra rb hq => ?_
  obtain ⟨d, e, q⟩ := ofO_some hq
  exact ⟨F1, da, db, d, E1.sub, ra, rb, e, q⟩
end
end Rh

set_option Elab.async false
set_option linter.all false
set_option maxRecDepth 100000
set_option maxHeartbeats 1000000
/-! Truth: chains, and, or, not, if. -/
namespace Rh
open PySem PySem.Spec PyProof.Rows L2
section
variable {X : Cx} {m : Mo} {F H F' H' : Hp} {σ : L2.St} {δ : Ev}
theorem tru_of {v : V} {d : PyData} {k : Bool} (s : Same F H) (r : RP X F v d) (e : truth d = some k) : TruV X.K v H k := by
  cases r with
  | non => exact (Option.some.inj e).symm
  | bl b => exact (Option.some.inj e).symm
  | int i => exact (Option.some.inj e).symm
  | str x => cases e
  | @lst a xs ds h r =>
    refine .inl ⟨xs, SqL.of (s _ _ h), ?_⟩
    rw [← Option.some.inj e]
    cases r <;> rfl
  | @tup a xs ds h r =>
    refine .inr (.inl ⟨xs, (h.mono s).sq, ?_⟩)
    rw [← Option.some.inj e]
    cases r <;> rfl
  | dic _ _ => cases e
  | scr _ => cases e
theorem RzB.on {r : Res Bool} {Q : Bool → Hp → Prop} {F1 H1 : Hp} (x : Ext F H F1 H1) (h : RzB X m σ F H r Q) : RzB X m σ F1 H1 r Q := by
  cases r with
  | ok b => exact fun F2 H2 x2 => h F2 H2 (x.trans x2)
  | err z => exact err_on x.hh h
  | stuck => exact h
theorem Rz.on {r : Res PyData} {Q : VK} {F1 H1 : Hp} (x : Ext F H F1 H1) (h : Rz X m σ F H r Q) : Rz X m σ F1 H1 r Q := by
  cases r with
  | ok b => exact fun v F2 H2 x2 => h v F2 H2 (x.trans x2)
  | err z => exact err_on x.hh h
  | stuck => exact h
/-- a part's value, then a test -/
theorem T.oneB {c : DE} {k : PyData → Res Bool} {Q : Bool → Hp → Prop} (E : En X m F H σ δ) (h : RzB X m σ F H ((ev m.g m.f c δ).bind k) Q)
    {R : V → Hp → Prop} (hk : ∀ d v F1 H1, Ext F H F1 H1 → En X m F1 H1 σ δ → RP X F1 v d → RzB X m σ F1 H1 (k d) Q → R v H1) : T X m c σ H R := by
  refine ⟨F, δ, E, ?_⟩
  cases e : ev m.g m.f c δ with
  | ok d =>
    rw [e] at h
    exact fun v F1 H1 x r => hk d v F1 H1 x (E.ext x) r (RzB.on x h)
  | err z =>
    rw [e] at h
    exact h
  | stuck =>
    rw [e] at h
    exact h
theorem ofO_someB {o : Option Bool} {Q : Bool → Hp → Prop} (h : RzB X m σ F H (.ofO o) Q) : ∃ d, o = some d ∧ ∀ F' H', Ext F H F' H' → Q d H' := by
  cases o with
  | none => exact h.elim
  | some d => exact ⟨d, rfl, h⟩
/-- a test that is its value's truth -/
theorem t_plain {a : Expr} {c : DE} (ha : PE X a (T X m c)) (he : ∀ whole, isTrue a X.env whole = (do let v ← whole; standAt a.pos; holding [v] (truthy v))) : PT X a (TB X m c) := by
  refine (pt_truth ha he).imp fun σ H Q ⟨F, δ, E, h⟩ => ?_
  refine T.oneB E h fun d v F1 H1 x E1 r hq => ?_
  obtain ⟨k, e, q⟩ := ofO_someB hq
  exact ⟨k, tru_of E1.sub r e, q F1 H1 (.refl E1.sub)⟩
theorem t_cmp {op : CmpOp} {l r : Expr} {a b : DE} {pos : Pos} (hu : X.A.units + 100 < cLine) (h1 : PE X l (T X m a)) (h2 : PE X r (T X m b)) (hm : behindInMarks op r = false) : PT X (.Compare l [op] [r] pos) (TB X m (.cmp op a b)) := by
  refine (pt_cmpR (cmp_ok op hu) h1 h2 hm).imp fun σ H Q ⟨F, δ, E, h⟩ => ?_
  have h' : RzB X m σ F H ((ev m.g m.f a δ).bind fun x => (ev m.g m.f b δ).bind fun y => (Res.ofO ((cmpD op x y).map PyData.bool)).bind fun z => .ofO (truth z)) Q := by
    have q : evt m.g m.f (.cmp op a b) δ = (ev m.g m.f a δ).bind fun x => (ev m.g m.f b δ).bind fun y => (Res.ofO ((cmpD op x y).map PyData.bool)).bind fun z => .ofO (truth z) := by
      show (ev m.g m.f (.cmp op a b) δ).bind _ = _
      simp only [ev]
      cases ev m.g m.f a δ with
      | ok x =>
        show Res.bind (Res.bind (ev m.g m.f b δ) _) _ = Res.bind (ev m.g m.f b δ) _
        cases ev m.g m.f b δ <;> rfl
      | _ => rfl
    rw [← q]
    exact h
  refine T.oneB E h' fun da va F1 H1 x1 E1 ra h1 => ?_
  refine T.oneB E1 h1 fun db vb F2 H2 x2 E2 rb h2 => ?_
  cases e : cmpD op da db with
  | none =>
    rw [e] at h2
    exact h2.elim
  | some k =>
    rw [e] at h2
    refine ⟨F2, da, db, .bool k, E2.sub, ra.mono x2.ff, rb, congrArg (Option.map PyData.bool) e, fun v F3 H3 x3 r3 => ?_⟩
    cases r3
    exact ⟨k, rfl, h2 F3 H3 x3⟩
theorem t_not {a : Expr} {c : DE} {pos : Pos} (h1 : PT X a (TB X m c)) : PT X (.UnaryOp .Not a pos) (TB X m (.nt c)) := by
  refine (pt_not h1).imp fun σ H Q ⟨F, δ, E, h⟩ => ?_
  refine ⟨F, δ, E, ?_⟩
  have q : evt m.g m.f (.nt c) δ = (evt m.g m.f c δ).bind fun k => .ok (!k) := by
    show (ev m.g m.f (.nt c) δ).bind _ = (Res.bind (ev m.g m.f c δ) _).bind _
    simp only [ev]
    cases ev m.g m.f c δ with
    | ok x =>
      show Res.bind (Res.ofO ((truth x).map fun k => PyData.bool (!k))) _ = Res.bind (Res.ofO (truth x)) _
      cases truth x <;> rfl
    | _ => rfl
  rw [q] at h
  cases e : evt m.g m.f c δ with
  | ok k =>
    rw [e] at h
    exact h
  | err z =>
    rw [e] at h
    exact h
  | stuck =>
    rw [e] at h
    exact h
theorem e_not {a : Expr} {c : DE} {pos : Pos} (h1 : PE X a (T X m c)) : PE X (.UnaryOp .Not a pos) (T X m (.nt c)) := by
  refine (pe_notT h1).imp fun σ H Q ⟨F, δ, E, h⟩ => ?_
  refine T.one E h fun d v F1 H1 x E1 r _ hq => ?_
  obtain ⟨d2, e2, q⟩ := ofO_some hq
  obtain ⟨k, ek, rfl⟩ := Option.map_eq_some_iff.mp e2
  exact ⟨k, tru_of E1.sub r ek, q _ F1 H1 (.refl E1.sub) (.bl _)⟩
theorem e_chain {o1 o2 : CmpOp} {l r z : Expr} {a b c : DE} {pos : Pos} (hu : X.A.units + 100 < cLine) (h1 : PE X l (T X m a)) (h2 : PE X r (T X m b)) (h3 : PE X z (T X m c)) (hm : lastMarks [o1, o2] [r, z] = false) :
    PE X (.Compare l [o1, o2] [r, z] pos) (T X m (.chain o1 o2 a b c)) := by
  refine (pe_chain (cmp_ok o1 hu) (cmp_ok o2 hu) h1 h2 h3 hm).imp fun σ H Q ⟨F, δ, E, h⟩ => ?_
  refine T.two E h fun da va db vb F1 H1 x E1 ra rb hq => ?_
  cases e : cmpD o1 da db with
  | none =>
    rw [e] at hq
    exact hq.elim
  | some k =>
    rw [e] at hq
    refine ⟨F1, da, db, .bool k, E1.sub, ra, rb, congrArg (Option.map PyData.bool) e, fun v F2 H2 x2 r2 => ?_⟩
    cases r2
    refine ⟨k, rfl, ?_⟩
    have hq' : Rz X m σ F1 H1 (if k = true then (ev m.g m.f c δ).bind fun z => .ofO ((cmpD o2 db z).map .bool) else .ok (.bool false)) Q := hq
    cases k with
    | false => exact iteF (hq' _ F2 H2 x2 (.bl _))
    | true =>
      refine iteT (T.one (E1.ext x2) (Rz.on x2 hq') fun dc vc F3 H3 x3 E3 rc _ h3 => ?_)
      obtain ⟨d, e3, q⟩ := ofO_some h3
      exact ⟨F3, db, dc, d, E3.sub, rb.mono (x2.trans x3).ff, rc, e3, q⟩
theorem t_chain {o1 o2 : CmpOp} {l r z : Expr} {a b c : DE} {pos : Pos} (hu : X.A.units + 100 < cLine) (h1 : PE X l (T X m a)) (h2 : PE X r (T X m b)) (h3 : PE X z (T X m c)) (hm : lastMarks [o1, o2] [r, z] = false) :
    PT X (.Compare l [o1, o2] [r, z] pos) (TB X m (.chain o1 o2 a b c)) := by
  refine (pt_chain (cmp_ok o1 hu) (cmp_ok o2 hu) h1 h2 h3 hm).imp fun σ H Q ⟨F, δ, E, h⟩ => ?_
  have h' : Rz X m σ F H (ev m.g m.f (.chain o1 o2 a b c) δ) fun x H' => ∃ k, x = .bl k ∧ Q k H' := by
    have hb : ∀ d, ev m.g m.f (.chain o1 o2 a b c) δ = .ok d → ∃ k, d = .bool k := by
      intro d hd
      simp only [ev] at hd
      cases ea : ev m.g m.f a δ with
      | ok x =>
        rw [ea] at hd
        have hd : (Res.bind (ev m.g m.f b δ) _) = .ok d := hd
        cases eb : ev m.g m.f b δ with
        | ok y =>
          rw [eb] at hd
          have hd : (Res.bind (Res.ofO (cmpD o1 x y)) _) = .ok d := hd
          cases ek : cmpD o1 x y with
          | none =>
            rw [ek] at hd
            cases hd
          | some k =>
            rw [ek] at hd
            have hd : (if k = true then (ev m.g m.f c δ).bind fun z => Res.ofO ((cmpD o2 y z).map PyData.bool) else .ok (.bool false)) = .ok d := hd
            cases k with
            | false =>
              cases hd
              exact ⟨_, rfl⟩
            | true =>
              have hd : Res.bind (ev m.g m.f c δ) _ = .ok d := hd
              cases ec : ev m.g m.f c δ with
              | ok z =>
                rw [ec] at hd
                have hd : Res.ofO ((cmpD o2 y z).map PyData.bool) = .ok d := hd
                cases e2 : cmpD o2 y z with
                | none =>
                  rw [e2] at hd
                  cases hd
                | some k2 =>
                  rw [e2] at hd
                  cases hd
                  exact ⟨_, rfl⟩
              | err _ =>
                rw [ec] at hd
                cases hd
              | stuck =>
                rw [ec] at hd
                cases hd
        | err _ =>
          rw [eb] at hd
          cases hd
        | stuck =>
          rw [eb] at hd
          cases hd
      | err _ =>
        rw [ea] at hd
        cases hd
      | stuck =>
        rw [ea] at hd
        cases hd
    have h2 : RzB X m σ F H ((ev m.g m.f (.chain o1 o2 a b c) δ).bind fun x => .ofO (truth x)) Q := h
    cases e : ev m.g m.f (.chain o1 o2 a b c) δ with
    | ok d =>
      obtain ⟨k, rfl⟩ := hb d e
      rw [e] at h2
      intro v F1 H1 x r
      cases r
      exact ⟨k, rfl, h2 F1 H1 x⟩
    | err z =>
      rw [e] at h2
      exact h2
    | stuck =>
      rw [e] at h2
      exact h2
  have p : T X m (.chain o1 o2 a b c) σ H fun x H' => ∃ k, x = .bl k ∧ Q k H' := ⟨F, δ, E, h'⟩
  show tChain _ _ _ _ _ σ H fun x H' => ∃ k, x = .bl k ∧ Q k H'
  -- the same road as the value's
  refine T.two E h' fun da va db vb F1 H1 x E1 ra rb hq => ?_
  cases e : cmpD o1 da db with
  | none =>
    rw [e] at hq
    exact hq.elim
  | some k =>
    rw [e] at hq
    refine ⟨F1, da, db, .bool k, E1.sub, ra, rb, congrArg (Option.map PyData.bool) e, fun v F2 H2 x2 r2 => ?_⟩
    cases r2
    refine ⟨k, rfl, ?_⟩
    have hq' : Rz X m σ F1 H1 (if k = true then (ev m.g m.f c δ).bind fun z => .ofO ((cmpD o2 db z).map .bool) else .ok (.bool false)) (fun x H' => ∃ k, x = .bl k ∧ Q k H') := hq
    cases k with
    | false => exact iteF (hq' _ F2 H2 x2 (.bl _))
    | true =>
      refine iteT (T.one (E1.ext x2) (Rz.on x2 hq') fun dc vc F3 H3 x3 E3 rc _ h3 => ?_)
      obtain ⟨d, e3, q⟩ := ofO_some h3
      exact ⟨F3, db, dc, d, E3.sub, rb.mono (x2.trans x3).ff, rc, e3, q⟩

/-! ### and, or -/
def stopB : BoolOp → Bool
  | .And => true
  | .Or => false
def evtb (g : Str → Option PyData) (f : Str → List PyData → Res PyData) (op : BoolOp) (cs : DEs) (δ : Ev) : Res Bool := (evb g f op cs δ).bind fun x => .ofO (truth x)
def TBb (X : Cx) (m : Mo) (op : BoolOp) (c : DEs) : TT := fun σ H Q => ∃ F δ, En X m F H σ δ ∧ RzB X m σ F H (evtb m.g m.f op c δ) Q
def Tb (X : Cx) (m : Mo) (op : BoolOp) (c : DEs) : TE := fun σ H Q => ∃ F δ, En X m F H σ δ ∧ Rz X m σ F H (evb m.g m.f op c δ) Q
theorem evb_one (op : BoolOp) (c : DE) (g : Str → Option PyData) (f : Str → List PyData → Res PyData) (δ : Ev) : evb g f op (.cons c .nil) δ = ev g f c δ := by
  simp only [evb]
  cases ev g f c δ <;> rfl
theorem evb_more (op : BoolOp) (c c2 : DE) (cs : DEs) (g : Str → Option PyData) (f : Str → List PyData → Res PyData) (δ : Ev) : evb g f op (.cons c (.cons c2 cs)) δ =
    (ev g f c δ).bind fun x => (match truth x with
      | some k => if k = stopB op then evb g f op (.cons c2 cs) δ else .ok x
      | none => .stuck) := by
  cases op <;> rfl
theorem pw_one {op : BoolOp} {a : Expr} {pos : Pos} {t : TT} (h : PT X a t) : PW X (.BoolOp op [a] pos) t := by
  cases op with
  | And => exact pw_and1 h
  | Or => exact pw_or1 h
theorem w_one {op : BoolOp} {a : Expr} {c : DE} {pos : Pos} (h : PT X a (TB X m c)) : PW X (.BoolOp op [a] pos) (TBb X m op (.cons c .nil)) := by
  refine ⟨fun wh pins s σ H Q I ⟨F, δ, E, hq⟩ => (pw_one h).run wh pins s σ H Q I ⟨F, δ, E, ?_⟩⟩
  unfold evtb at hq
  rw [evb_one] at hq
  exact hq
theorem w_more {op : BoolOp} {a b : Expr} {rest : List Expr} {c c2 : DE} {cs : DEs} {pos : Pos} (h1 : PT X a (TB X m c)) (h2 : PW X (.BoolOp op (b :: rest) pos) (TBb X m op (.cons c2 cs))) :
    PW X (.BoolOp op (a :: b :: rest) pos) (TBb X m op (.cons c (.cons c2 cs))) := by
  have key : ∀ σ H Q, TBb X m op (.cons c (.cons c2 cs)) σ H Q → TB X m c σ H fun k H1 => if k = stopB op then TBb X m op (.cons c2 cs) σ H1 Q else Q k H1 := by
    rintro σ H Q ⟨F, δ, E, h⟩
    refine ⟨F, δ, E, ?_⟩
    unfold evtb at h
    rw [evb_more] at h
    unfold evt
    cases e : ev m.g m.f c δ with
    | err z =>
      rw [e] at h
      exact h
    | stuck =>
      rw [e] at h
      exact h
    | ok x =>
      rw [e] at h
      show RzB X m σ F H (.ofO (truth x)) _
      have h' : RzB X m σ F H (Res.bind (match truth x with
        | some k => if k = stopB op then evb m.g m.f op (.cons c2 cs) δ else .ok x
        | none => .stuck) fun x => .ofO (truth x)) Q := h
      cases e2 : truth x with
      | none =>
        rw [e2] at h'
        exact h'.elim
      | some k =>
        rw [e2] at h'
        intro F1 H1 x1
        by_cases hk : k = stopB op
        · rw [if_pos hk]
          simp only [if_pos hk] at h'
          exact ⟨F1, δ, E.ext x1, RzB.on x1 h'⟩
        · rw [if_neg hk]
          simp only [if_neg hk] at h'
          have h3 : RzB X m σ F H (.ofO (truth x)) Q := h'
          rw [e2] at h3
          exact h3 F1 H1 x1
  cases op with
  | And =>
    refine ⟨fun wh pins s σ H Q I h => (pw_and h1 h2).run wh pins s σ H Q I ?_⟩
    obtain ⟨F, δ, E, hq⟩ := key σ H Q h
    refine ⟨F, δ, E, ?_⟩
    cases e : evt m.g m.f c δ with
    | ok k =>
      rw [e] at hq
      intro F1 H1 x1
      have z := hq F1 H1 x1
      cases k with
      | true => exact z
      | false => exact z
    | err z =>
      rw [e] at hq
      exact hq
    | stuck =>
      rw [e] at hq
      exact hq
  | Or =>
    refine ⟨fun wh pins s σ H Q I h => (pw_or h1 h2).run wh pins s σ H Q I ?_⟩
    obtain ⟨F, δ, E, hq⟩ := key σ H Q h
    refine ⟨F, δ, E, ?_⟩
    cases e : evt m.g m.f c δ with
    | ok k =>
      rw [e] at hq
      intro F1 H1 x1
      have z := hq F1 H1 x1
      cases k with
      | true => exact z
      | false => exact z
    | err z =>
      rw [e] at hq
      exact hq
    | stuck =>
      rw [e] at hq
      exact hq
theorem t_bop {op : BoolOp} {es : List Expr} {cs : DEs} {pos : Pos} (h : PW X (.BoolOp op es pos) (TBb X m op cs)) : PT X (.BoolOp op es pos) (TB X m (.bop op cs)) := by
  refine h.pt.imp fun σ H Q ⟨F, δ, E, hq⟩ => ⟨F, δ, E, ?_⟩
  unfold evt at hq
  simp only [ev] at hq
  exact hq
theorem b_one {op : BoolOp} {a : Expr} {c : DE} {pos : Pos} (h : PE X a (T X m c)) : PE X (.BoolOp op [a] pos) (Tb X m op (.cons c .nil)) := by
  refine (pe_one h).imp fun σ H Q ⟨F, δ, E, hq⟩ => ⟨F, δ, E, ?_⟩
  rw [evb_one] at hq
  exact hq
theorem b_more {op : BoolOp} {a b : Expr} {rest : List Expr} {c c2 : DE} {cs : DEs} {pos : Pos} (h1 : PE X a (T X m c)) (h2 : PE X (.BoolOp op (b :: rest) pos) (Tb X m op (.cons c2 cs))) :
    PE X (.BoolOp op (a :: b :: rest) pos) (Tb X m op (.cons c (.cons c2 cs))) := by
  have key : ∀ σ H Q, Tb X m op (.cons c (.cons c2 cs)) σ H Q → T X m c σ H fun x H1 => ∃ k, TruV X.K x H1 k ∧ if k = stopB op then Tb X m op (.cons c2 cs) σ H1 Q else Q x H1 := by
    rintro σ H Q ⟨F, δ, E, h⟩
    rw [evb_more] at h
    refine T.one E h fun d v F1 H1 x E1 r _ hq => ?_
    cases e2 : truth d with
    | none =>
      rw [e2] at hq
      exact hq.elim
    | some k =>
      rw [e2] at hq
      refine ⟨k, tru_of E1.sub r e2, ?_⟩
      by_cases hk : k = stopB op
      · rw [if_pos hk]
        simp only [if_pos hk] at hq
        exact ⟨F1, δ, E1, hq⟩
      · rw [if_neg hk]
        simp only [if_neg hk] at hq
        exact hq _ F1 H1 (.refl E1.sub) r
  have mono : ∀ (σ : L2.St) (H : Hp) (R R' : VK), T X m c σ H R → (∀ v H', R v H' → R' v H') → T X m c σ H R' := by
    rintro σ H R R' ⟨F, δ, E, h⟩ i
    refine ⟨F, δ, E, ?_⟩
    cases e : ev m.g m.f c δ with
    | ok d =>
      rw [e] at h
      exact fun v F1 H1 x r => i _ _ (h v F1 H1 x r)
    | err z =>
      rw [e] at h
      exact h
    | stuck =>
      rw [e] at h
      exact h
  cases op with
  | And =>
    refine (pe_andT h1 h2).imp fun σ H Q h => mono σ H _ _ (key σ H Q h) ?_
    rintro v H1 ⟨k, t, q⟩
    refine ⟨k, t, ?_⟩
    cases k with
    | true => exact q
    | false => exact q
  | Or =>
    refine (pe_orT h1 h2).imp fun σ H Q h => mono σ H _ _ (key σ H Q h) ?_
    rintro v H1 ⟨k, t, q⟩
    refine ⟨k, t, ?_⟩
    cases k with
    | true => exact q
    | false => exact q
theorem e_bop {op : BoolOp} {es : List Expr} {cs : DEs} {pos : Pos} (h : PE X (.BoolOp op es pos) (Tb X m op cs)) : PE X (.BoolOp op es pos) (T X m (.bop op cs)) := by
  refine h.imp fun σ H Q ⟨F, δ, E, hq⟩ => ⟨F, δ, E, ?_⟩
  simp only [ev] at hq
  exact hq
theorem e_ite {t a b : Expr} {ct ca cb : DE} {pos : Pos} (h1 : PT X t (TB X m ct)) (h2 : PE X a (T X m ca)) (h3 : PE X b (T X m cb)) : PE X (.IfExp t a b pos) (T X m (.ite ct ca cb)) := by
  refine (pe_ifExp h1 h2 h3).imp fun σ H Q ⟨F, δ, E, h⟩ => ?_
  refine ⟨F, δ, E, ?_⟩
  have h' : Rz X m σ F H ((ev m.g m.f ct δ).bind fun x => (match truth x with
    | some true => ev m.g m.f ca δ
    | some false => ev m.g m.f cb δ
    | none => .stuck)) Q := h
  unfold evt
  cases e : ev m.g m.f ct δ with
  | err z =>
    rw [e] at h'
    exact h'
  | stuck =>
    rw [e] at h'
    exact h'
  | ok x =>
    rw [e] at h'
    show RzB X m σ F H (.ofO (truth x)) _
    have h2 : Rz X m σ F H (match truth x with
      | some true => ev m.g m.f ca δ
      | some false => ev m.g m.f cb δ
      | none => .stuck) Q := h'
    cases e2 : truth x with
    | none =>
      rw [e2] at h2
      exact h2.elim
    | some k =>
      rw [e2] at h2
      intro F1 H1 x1
      cases k with
      | true => exact iteT ⟨F1, δ, E.ext x1, Rz.on x1 h2⟩
      | false => exact iteF ⟨F1, δ, E.ext x1, Rz.on x1 h2⟩
end
end Rh

set_option Elab.async false
set_option linter.all false
set_option maxRecDepth 100000
set_option maxHeartbeats 1000000
/-! Places, slices, calls, built-ins. -/
namespace Rh
open PySem PySem.Spec PyProof.Rows L2
section
variable {X : Cx} {m : Mo} {F H F' H' : Hp} {σ : L2.St} {δ : Ev}
theorem Rp.script {P : Program} {w : World} {K : PySem.W.Frag} {v : V} {x : Str} {xs : List PyData} (r : Rp P w K F v (.dict [(.str x, .list xs)])) : ∃ (a : Addr) (ns : List Int), v = .ref a ∧ SqL K F a (ns.map V.int) ∧ xs = ns.map PyData.int := by
  generalize hd : PyData.dict [(.str x, .list xs)] = d at r
  cases r with
  | @dic a ys kvs h q =>
    injection hd with hd
    cases q with
    | nil => cases hd
    | @cons k b u v2 d2 xs2 kvs2 h1 h2 h3 h4 =>
      injection hd with hd _
      injection hd with hd _
      rw [← hd] at h1
      cases h1
  | @scr a ns h =>
    have e : PyData.dict [(.str x, .list xs)] = .dict [(.str "script", .list (ns.map .int))] := hd
    injection e with e
    injection e with e _
    injection e with _ e
    injection e with e
    exact ⟨a, ns, rfl, h, e⟩
  | _ => cases hd
theorem atI_get2 {α β : Type} {xs : List α} {ys : List β} (hl : xs.length = ys.length) {i : Int} {y : β} (h : atI ys i = some y) : ∃ j : Nat, ys[j]? = some y ∧ ∀ x, xs[j]? = some x → atI xs i = some x := by
  unfold atI at h
  obtain ⟨j, e1, e2⟩ := Option.bind_eq_some_iff.mp h
  refine ⟨j, e2, fun x e3 => ?_⟩
  unfold atI
  rw [hl, e1]
  exact e3
theorem RpA.atI {P : Program} {w : World} {K : PySem.W.Frag} {vs : List V} {ds : List PyData} {i : Int} {d : PyData} (r : RpA P w K F vs ds) (h : L2.atI ds i = some d) : ∃ v, L2.atI vs i = some v ∧ Rp P w K F v d := by
  obtain ⟨j, e1, e2⟩ := atI_get2 r.length h
  obtain ⟨v, e3, q⟩ := r.get e1
  exact ⟨v, e2 v e3, q⟩
theorem ix_ok : IxR X (rD X ixD) := by
  intro va sl pins s σ H x y v u Q I rx ry ⟨F, dx, dy, d, sF, hx, hy, e, q⟩ hs
  unfold ixD at e
  split at e
  · cases hy
    cases hx with
    | @lst a vs _ ha ra =>
      obtain ⟨w1, e1, r1⟩ := ra.atI e
      exact ix_list va sl pins s σ H _ _ v u Q I rx ry ⟨a, vs, _, w1, rfl, rfl, SqL.of (sF _ _ ha), e1, q _ F H (.refl sF) r1⟩ hs
  · cases hy
    cases hx with
    | @tup a vs _ ha ra =>
      obtain ⟨w1, e1, r1⟩ := ra.atI e
      exact ix_tup va sl pins s σ H _ _ v u Q I rx ry ⟨a, vs, _, w1, rfl, rfl, (ha.mono sF).sq, e1, q _ F H (.refl sF) r1⟩ hs
  · cases hy
    obtain ⟨a, ns, rfl, hS, rfl⟩ := hx.script
    obtain ⟨w1, e1, r1⟩ := (RpA.of_ints (P := X.prog) (w := X.w) (K := X.K) (F := F) ns).atI e
    exact ix_list va sl pins s σ H _ _ v u Q I rx ry ⟨a, _, _, w1, rfl, rfl, sF.seq hS, e1, q _ F H (.refl sF) r1⟩ hs
  · cases e
theorem e_ix {l r : Expr} {a b : DE} {pos : Pos} (h1 : PE X l (T X m a)) (h2 : PE X r (T X m b)) (hs : PlainIx r) : PE X (.Subscript l r pos) (T X m (.ix a b)) := by
  refine (pe_ix ix_ok h1 h2 hs).imp fun σ H Q ⟨F, δ, E, h⟩ => ?_
  refine T.two E h fun da va db vb F1 H1 x E1 ra rb hq => ?_
  obtain ⟨d, e, q⟩ := ofO_some hq
  exact ⟨F1, da, db, d, E1.sub, ra, rb, e, q⟩

/-! ### slices -/
def RzO (X : Wd) (m : Mo) (σ : L2.St) (F H : Hp) : Res (Option Int) → (Option Int → Hp → Prop) → Prop
  | .ok d, Q => ∀ F' H', Ext F H F' H' → Q d H'
  | .err x, _ => ∃ C, m.C x = some C ∧ ∀ H', Same H H' → m.W (.ref C) none σ H'
  | .stuck, _ => False
def TP' (X : Wd) (m : Mo) (c : DO) : TO := fun σ H Q => ∃ F δ, En X m F H σ δ ∧ RzO X m σ F H (evo m.g m.f c δ) Q
theorem o_no : PO X none (TP' X m .no) := ⟨fun pins s σ H Q I ⟨F, δ, E, h⟩ => po_none.run pins s σ H Q I (h F H (.refl E.sub))⟩
theorem o_some {e : Expr} {c : DE} (h1 : PE X e (T X m c)) : PO X (some e) (TP' X m (.some c)) := by
  refine ⟨fun pins s σ H Q I ⟨F, δ, E, h⟩ => (po_some h1).run pins s σ H Q I ⟨F, δ, E, ?_⟩⟩
  have h' : RzO X m σ F H ((ev m.g m.f c δ).bind fun x => (match x with
    | .int i => .ok (some i)
    | _ => .stuck)) Q := h
  cases e1 : ev m.g m.f c δ with
  | err z =>
    rw [e1] at h'
    exact h'
  | stuck =>
    rw [e1] at h'
    exact h'
  | ok d =>
    rw [e1] at h'
    intro v F1 H1 x r
    cases r with
    | int i => exact ⟨i, rfl, h' F1 H1 x⟩
    | _ => exact (show False from h').elim
theorem RpA.cut {P : Program} {w : World} {K : PySem.W.Frag} {vs : List V} {ds : List PyData} (r : RpA P w K F vs ds) (lo hi : Option Int) : RpA P w K F (cutV vs lo hi) (cut ds lo hi) := by
  unfold cutV Rh.cut
  rw [r.length]
  exact (r.drop _).take _
def rSlD (X : Cx) : V → Option Int → Option Int → Hp → VK → Prop := fun x lo hi H Q => ∃ F d d', Same F H ∧ RP X F x d ∧ (match d with
    | .list xs => some (.list (cut xs lo hi))
    | .tuple xs => some (.tuple (cut xs lo hi))
    | _ => none) = some d' ∧ ∀ v F' H', Ext F H F' H' → RP X F' v d' → Q v H'
theorem cut_whole {xs : List PyData} {lo hi : Option Int} (h : HT.sIx xs.length 0 lo = 0 ∧ HT.sIx xs.length xs.length hi = xs.length) : cut xs lo hi = xs := by
  unfold cut
  rw [h.1, h.2]
  simp
theorem sl_ok : SlR X (rSlD X) := by
  intro pins s σ H x v vl vu lo hi sl Q I rx hs pl pu ⟨F, d, d', sF, hx, e, q⟩
  split at e
  · cases e
    cases hx with
    | @lst a vs _ ha ra =>
      exact sl_list pins s σ H _ v vl vu lo hi sl Q I rx hs pl pu ⟨a, vs, rfl, SqL.of (sF _ _ ha), fun p np => q _ _ _ (.alloc sF np) (.lst upd_same ((ra.cut lo hi).mono (same_upd (sF.free np))))⟩
  · cases e
    cases hx with
    | @tup a vs _ ha ra =>
      refine sl_tupF pins s σ H _ v vl vu lo hi sl Q I rx hs pl pu ⟨a, vs, rfl, (ha.mono sF).sq, fun hw => ?_, fun _ p o od np => q _ _ _ (.alloc sF np) (.tup (.new od) ((ra.cut lo hi).mono (same_upd (sF.free np))))⟩
      rw [ra.length] at hw
      refine q _ F H (.refl sF) ?_
      rw [cut_whole hw]
      exact .tup ha ra
  · cases e
theorem T.oneO {c : DO} {k : Option Int → Res PyData} {Q : VK} (E : En X m F H σ δ) (h : Rz X m σ F H ((evo m.g m.f c δ).bind k) Q)
    {R : Option Int → Hp → Prop} (hk : ∀ d F1 H1, Ext F H F1 H1 → En X m F1 H1 σ δ → Rz X m σ F1 H1 (k d) Q → R d H1) : TP' X m c σ H R := by
  refine ⟨F, δ, E, ?_⟩
  cases e : evo m.g m.f c δ with
  | ok d =>
    rw [e] at h
    exact fun F1 H1 x => hk d F1 H1 x (E.ext x) (Rz.on x h)
  | err z =>
    rw [e] at h
    exact h
  | stuck =>
    rw [e] at h
    exact h
theorem e_sl {l : Expr} {lo hi : Option Expr} {a : DE} {cl ch : DO} {p2 pos : Pos} (h1 : PE X l (T X m a)) (h2 : PO X lo (TP' X m cl)) (h3 : PO X hi (TP' X m ch)) : PE X (.Subscript l (.Slice lo hi none p2) pos) (T X m (.sl a cl ch)) := by
  refine (pe_slice sl_ok h1 h2 h3).imp fun σ H Q ⟨F, δ, E, h⟩ => ?_
  refine T.one E h fun d v F1 H1 x1 E1 r1 _ hq => ?_
  refine T.oneO E1 hq fun o F2 H2 x2 E2 hq2 => ?_
  refine T.oneO E2 hq2 fun o2 F3 H3 x3 E3 hq3 => ?_
  cases d with
  | list xs => exact ⟨F3, .list xs, _, E3.sub, r1.mono (x2.trans x3).ff, rfl, hq3⟩
  | tuple xs => exact ⟨F3, .tuple xs, _, E3.sub, r1.mono (x2.trans x3).ff, rfl, hq3⟩
  | _ => exact (show False from hq3).elim

/-! ### calls of defs -/
def spF (D : Wd) (C : Str → Option Addr) (f : List PyData → Res PyData) : Sp := fun vs H Q E => ∃ F ds, Same F H ∧ RPA D F vs ds ∧ (match f ds with
  | .ok d => ∀ v F' H', Ext F H F' H' → RP D F' v d → Q v H'
  | .err x => ∃ A, C x = some A ∧ ∀ H', Same H H' → E (.ref A) none H'
  | .stuck => False)
/-- the def x, one level below -/
structure FnI (X : Cx) (m : Mo) (x : Str) : Prop where
  ex : ∃ (k : Nat) (f : Addr) (fd : FuncData) (ps : List Str), FnOk X.prog X.w X.K X.mg X.base (L2.CX X.prog X.w) k f fd ps (spF X m.C (m.f x)) ∧ Room k X.A ∧ X.mg x = some (.ref f) ∧ PySem.W.keepIn X.K (.ref f) = true ∧ Binds X.K fd ps []
  db : (x == ("__debug__" : Str)) = false
theorem e_call {x : Str} {e : Expr} {es : List Expr} {cs : DEs} {p pos : Pos} (tk : Takes X m.W) (hf : FnI X m x) (hg : Gl X x) (h1 : PA X (e :: es) (TL X m cs))
    (he : starEach (e :: es) X.env = (false, eval e X.env) :: starEach es X.env) (hpl : (backTo pos (starEach es X.env)).any (·.1) = false) : PE X (.Call (.Name x p) (e :: es) [] pos) (T X m (.call x cs)) := by
  obtain ⟨⟨k, f, fd, ps, F1, hr, hm, hk, hb⟩, db⟩ := hf
  refine (pe_callS (E := WE m.W) F1 hr hg hm hk hb (fun σ => passAt tk σ) h1 db he hpl).imp fun σ H Q ⟨F, δ, E, h⟩ => ?_
  refine TL.one E h fun d v F1 H1 x1 E1 r1 hq => ⟨F1, d, E1.sub, r1, ?_⟩
  cases e2 : m.f x d with
  | ok d2 =>
    rw [e2] at hq
    exact hq
  | err z =>
    rw [e2] at hq
    exact hq
  | stuck =>
    rw [e2] at hq
    exact hq

/-! ### built-ins of one value -/
def rC1 (X : Cx) (o : PyData → Option PyData) : List V → Hp → VK → Prop := fun xs H Q => ∃ F x d d', xs = [x] ∧ Same F H ∧ RP X F x d ∧ o d = some d' ∧ ∀ v F' H', Ext F H F' H' → RP X F' v d' → Q v H'
theorem TL.one1 {c : DE} {k : PyData → Option PyData} {Q : VK} (E : En X m F H σ δ) (h : Rz X m σ F H ((ev m.g m.f c δ).bind fun x => .ofO (k x)) Q) : TL X m (.cons c .nil) σ H fun vs H1 => rC1 X k vs H1 Q := by
  refine ⟨F, δ, E, ?_⟩
  show RzA X m σ F H ((ev m.g m.f c δ).bind fun x => .ok [x]) _
  cases e : ev m.g m.f c δ with
  | ok d =>
    rw [e] at h
    intro v F1 H1 x r
    cases r with
    | cons r1 r2 =>
      cases r2
      obtain ⟨d', e', q⟩ := ofO_some (Rz.on x h)
      exact ⟨F1, _, d, d', rfl, x.fh, r1, e', q⟩
  | err z =>
    rw [e] at h
    exact h
  | stuck =>
    rw [e] at h
    exact h
theorem len_ok : CallR X (.builtin "len") (rC1 X (bi1D .len)) := by
  intro pins s σ H xs us Q I r ⟨F, x, d, d', ex, sF, hx, e, q⟩
  subst ex
  unfold bi1D at e
  split at e <;> first | (rename_i h; cases h; done) | skip
  all_goals first | (cases e; done) | skip
  · cases e
    cases hx with
    | @lst a vs _ ha ra =>
      refine call_len pins s σ H _ us Q I r ⟨_, vs.length, rfl, .inl ⟨vs, SqL.of (sF _ _ ha), rfl⟩, ?_⟩
      rw [ra.length]
      exact q _ F H (.refl sF) (.int _)
  · cases e
    cases hx with
    | @tup a vs _ ha ra =>
      refine call_len pins s σ H _ us Q I r ⟨_, vs.length, rfl, .inr ⟨vs, (ha.mono sF).sq, rfl⟩, ?_⟩
      rw [ra.length]
      exact q _ F H (.refl sF) (.int _)
  · cases e
    obtain ⟨a, ns, rfl, hs, rfl⟩ := hx.script
    refine call_len pins s σ H _ us Q I r ⟨_, ns.length, rfl, .inl ⟨_, sF.seq hs, by simp⟩, ?_⟩
    refine q _ F H (.refl sF) ?_
    rw [List.length_map]
    exact .int _
theorem tuple_ok : CallR X (.type "tuple") (rC1 X (bi1D .tuple)) := by
  intro pins s σ H xs us Q I r ⟨F, x, d, d', ex, sF, hx, e, q⟩
  subst ex
  unfold bi1D at e
  split at e <;> first | (rename_i h; cases h; done) | skip
  all_goals first | (cases e; done) | skip
  · cases e
    cases hx with
    | @lst a vs _ ha ra =>
      exact call_tupleF pins s σ H _ us Q I r ⟨a, vs, rfl, .inl ⟨SqL.of (sF _ _ ha), fun l o od nl => q _ _ _ (.alloc sF nl) (.tup (.new od) (ra.mono (same_upd (sF.free nl))))⟩⟩
  · cases e
    cases hx with
    | @tup a vs _ ha ra =>
      exact call_tupleF pins s σ H _ us Q I r ⟨a, vs, rfl, .inr ⟨(ha.mono sF).sq, q _ F H (.refl sF) (.tup ha ra)⟩⟩
theorem list_ok : CallR X (.type "list") (rC1 X (bi1D .list)) := by
  intro pins s σ H xs us Q I r ⟨F, x, d, d', ex, sF, hx, e, q⟩
  subst ex
  unfold bi1D at e
  split at e <;> first | (rename_i h; cases h; done) | skip
  all_goals first | (cases e; done) | skip
  · cases e
    cases hx with
    | @lst a vs _ ha ra =>
      exact call_list_of pins s σ H _ us Q I r ⟨a, vs, rfl, .inl (SqL.of (sF _ _ ha)), fun l nl => q _ _ _ (.alloc sF nl) (.lst upd_same (ra.mono (same_upd (sF.free nl))))⟩
  · cases e
    cases hx with
    | @tup a vs _ ha ra =>
      exact call_list_of pins s σ H _ us Q I r ⟨a, vs, rfl, .inr (ha.mono sF).sq, fun l nl => q _ _ _ (.alloc sF nl) (.lst upd_same (ra.mono (same_upd (sF.free nl))))⟩
end
end Rh

set_option Elab.async false
set_option linter.all false
set_option maxRecDepth 100000
set_option maxHeartbeats 1000000
/-! Slots are stored; targets; what is walked; comprehensions. -/
namespace Rh
open PySem PySem.Spec PyProof.Rows L2
section
variable {X : Wd} {m : Mo} {F H F' H' : Hp} {σ : L2.St} {δ : Ev}
theorem set_at {α : Type} {l : List α} {i j : Nat} {a b : α} (h : (l.set i a)[j]? = some b) : (i = j ∧ i < l.length ∧ a = b) ∨ (i ≠ j ∧ l[j]? = some b) := by
  rw [List.getElem?_set] at h
  split at h
  · split at h
    · exact .inl ⟨by assumption, by assumption, Option.some.inj h⟩
    · cases h
  · exact .inr ⟨by assumption, h⟩
theorem set_self {α : Type} {l : List α} {i : Nat} {a : α} (h : i < l.length) : (l.set i a)[i]? = some a := by
  rw [List.getElem?_set, if_pos rfl, if_pos h]
theorem set_other {α : Type} {l : List α} {i j : Nat} {a : α} (h : i ≠ j) : (l.set i a)[j]? = l[j]? := by
  rw [List.getElem?_set, if_neg h]
theorem En.set (E : En X m F H σ δ) {i : Nat} {v : V} {d : PyData} (r : RP X F v d) : En X m F H (σ.set i (some v)) (δ.set i (some (.sh d))) := by
  refine ⟨E.sub, E.old, by rw [List.length_set, List.length_set, E.len], fun j e h => ?_, fun j e h => ?_, fun j k e1 e2 p hjk h1 h2 h3 => ?_⟩
  · rcases set_at h with ⟨rfl, hl, q⟩ | ⟨hn, q⟩
    · injection q with q
      injection q with q
      subst q
      exact ⟨v, set_self (by rw [← E.len]; exact hl), r⟩
    · obtain ⟨w, e1, r1⟩ := E.sh j e q
      exact ⟨w, by rw [set_other hn]; exact e1, r1⟩
  · rcases set_at h with ⟨rfl, hl, q⟩ | ⟨hn, q⟩
    · injection q with q
      cases q
    · obtain ⟨p, e1, r1⟩ := E.own j e q
      exact ⟨p, by rw [set_other hn]; exact e1, r1⟩
  · rcases set_at h1 with ⟨_, _, q⟩ | ⟨n1, q1⟩
    · injection q with q
      cases q
    · rcases set_at h2 with ⟨_, _, q⟩ | ⟨n2, q2⟩
      · injection q with q
        cases q
      · rw [set_other n1] at h3
        rw [set_other n2]
        exact E.apart j k e1 e2 p hjk q1 q2 h3
theorem En.clear (E : En X m F H σ δ) (i : Nat) : En X m F H (σ.set i none) (δ.set i none) := by
  refine ⟨E.sub, E.old, by rw [List.length_set, List.length_set, E.len], fun j e h => ?_, fun j e h => ?_, fun j k e1 e2 p hjk h1 h2 h3 => ?_⟩
  · rcases set_at h with ⟨rfl, hl, q⟩ | ⟨hn, q⟩
    · cases q
    · obtain ⟨w, e1, r1⟩ := E.sh j e q
      exact ⟨w, by rw [set_other hn]; exact e1, r1⟩
  · rcases set_at h with ⟨rfl, hl, q⟩ | ⟨hn, q⟩
    · cases q
    · obtain ⟨p, e1, r1⟩ := E.own j e q
      exact ⟨p, by rw [set_other hn]; exact e1, r1⟩
  · rcases set_at h1 with ⟨_, _, q⟩ | ⟨n1, q1⟩
    · cases q
    · rcases set_at h2 with ⟨_, _, q⟩ | ⟨n2, q2⟩
      · cases q
      · rw [set_other n1] at h3
        rw [set_other n2]
        exact E.apart j k e1 e2 p hjk q1 q2 h3
/-- an own object is put into a slot -/
theorem En.setOwn (E : En X m F H σ δ) {i : Nat} {p : Addr} {d : PyData} (nf : F p = none) (n0 : m.H0 p = none) (o : Ow X F H p d) (ap : ∀ (j : Nat) (e : PyData), i ≠ j → δ[j]? = some (some (.own e)) → σ[j]? ≠ some (some (.ref p))) :
    En X m F H (σ.set i (some (.ref p))) (δ.set i (some (.own d))) := by
  refine ⟨E.sub, E.old, by rw [List.length_set, List.length_set, E.len], fun j e h => ?_, fun j e h => ?_, fun j k e1 e2 q hjk h1 h2 h3 => ?_⟩
  · rcases set_at h with ⟨rfl, hl, q⟩ | ⟨hn, q⟩
    · injection q with q
      cases q
    · obtain ⟨w, e1, r1⟩ := E.sh j e q
      exact ⟨w, by rw [set_other hn]; exact e1, r1⟩
  · rcases set_at h with ⟨rfl, hl, q⟩ | ⟨hn, q⟩
    · injection q with q
      injection q with q
      subst q
      exact ⟨p, set_self (by rw [← E.len]; exact hl), nf, n0, o⟩
    · obtain ⟨p, e1, r1⟩ := E.own j e q
      exact ⟨p, by rw [set_other hn]; exact e1, r1⟩
  · rcases set_at h1 with ⟨rfl, l1, z1⟩ | ⟨n1, q1⟩
    · rw [set_self (by rw [← E.len]; exact l1)] at h3
      have e3 : p = q := by
        injection h3 with h3
        injection h3 with h3
        injection h3
      subst e3
      rcases set_at h2 with ⟨z, _, _⟩ | ⟨n2, q2⟩
      · exact absurd z hjk
      · rw [set_other n2]
        exact ap k e2 n2 q2
    · rw [set_other n1] at h3
      rcases set_at h2 with ⟨rfl, l2, _⟩ | ⟨n2, q2⟩
      · rw [set_self (by rw [← E.len]; exact l2)]
        intro z
        have e3 : p = q := by
          injection z with z
          injection z with z
          injection z
        subst e3
        exact ap j e1 n1 q1 h3
      · rw [set_other n2]
        exact E.apart j k e1 e2 q hjk q1 q2 h3
/-- an object that is neither frozen nor in a slot changes -/
theorem En.updO (E : En X m F H σ δ) {p : Addr} {o : HO} (nf : F p = none) (n0 : m.H0 p = none) (ap : ∀ (j : Nat) (e : PyData), δ[j]? = some (some (.own e)) → σ[j]? ≠ some (some (.ref p))) : En X m F (upd H p o) σ δ := by
  refine ⟨fun b u e => ?_, fun b u e => ?_, E.len, E.sh, fun j e h => ?_, E.apart⟩
  · rw [upd_ne (ne_of_none e nf)]
    exact E.sub b u e
  · rw [upd_ne (ne_of_none e n0)]
    exact E.old b u e
  · obtain ⟨q, e1, n1, n2, r⟩ := E.own j e h
    refine ⟨q, e1, n1, n2, ?_⟩
    have hne : q ≠ p := fun z => ap j e h (by rw [← z]; exact e1)
    cases e with
    | list ds =>
      obtain ⟨xs, z, r⟩ := r
      exact ⟨xs, by rw [upd_ne hne]; exact z, r⟩
    | dict ds =>
      obtain ⟨xs, z, r⟩ := r
      exact ⟨xs, by rw [upd_ne hne]; exact z, r⟩
    | _ => exact r.elim
theorem En.fresh (E : En X m F H σ δ) {p : Addr} (n : H p = none) : ∀ (j : Nat) (e : PyData), δ[j]? = some (some (.own e)) → σ[j]? ≠ some (some (.ref p)) := fun j e h z => by
  obtain ⟨q, e1, _, _, r⟩ := E.own j e h
  rw [z] at e1
  injection e1 with e1
  injection e1 with e1
  injection e1 with e1
  subst e1
  obtain ⟨o, e2⟩ := r.some
  rw [n] at e2
  cases e2
end

/-! ### targets -/
def gNames : List Nat → TGs
  | [] => gNil
  | i :: r => gCons (gName i) (gNames r)
def gT (K : PySem.W.Frag) : Tg → TG
  | .one i => gName i
  | .many is => gTup K is.length (gNames is)
def slots : Tg → List Nat
  | .one i => [i]
  | .many is => is
section
variable {X : Cx} {m : Mo} {F H F' H' : Hp} {σ : L2.St} {δ : Ev}
/-- the slots stored, one behind the other -/
theorem gNames_ok : ∀ (is : List Nat) (vs : List V) (ds : List PyData) (σ : L2.St) (δ : Ev) (Q : L2.St → Hp → Prop), En X m F H σ δ → RPA X F vs ds → ds.length = is.length →
    (∀ σ', En X m F H σ' ((is.zip ds).foldl (fun δ p => δ.set p.1 (some (.sh p.2))) δ) → (∀ j, j ∉ is → σ'[j]? = σ[j]?) → σ'.length = σ.length → Q σ' H) → gNames is vs σ H Q
  | [], _, _, σ, δ, Q, E, .nil, _, h => ⟨rfl, h σ E (fun _ _ => rfl) rfl⟩
  | [], _, _, σ, δ, Q, E, .cons _ _, hl, h => by cases hl
  | i :: is, _, _, σ, δ, Q, E, .nil, hl, h => by cases hl
  | i :: is, _, _, σ, δ, Q, E, .cons (v := v) (d := d) (vs := vs) (ds := ds) r rr, hl, h => by
    refine ⟨v, vs, rfl, ?_⟩
    refine gNames_ok is vs ds (σ.set i (some v)) (δ.set i (some (.sh d))) Q (E.set r) rr (by simpa using hl) fun σ' E' o l => h σ' E' (fun j hj => ?_) (by rw [l, List.length_set])
    rw [List.mem_cons, not_or] at hj
    rw [o j hj.2, set_other fun z => hj.1 z.symm]
/-- a value that a walk gives; b: a pair that was made for this turn -/
def RPo (X : Wd) (b : Bool) (F : Hp) (v : V) (d : PyData) : Prop := match b with
  | true => ∃ a xs ds, v = .ref a ∧ F a = some (.tup xs) ∧ d = .tuple ds ∧ RPA X F xs ds
  | false => RP X F v d
def isMany : Tg → Bool
  | .one _ => false
  | .many _ => true
theorem gT_ok {t : Tg} {b : Bool} {v : V} {d : PyData} {δ' : Ev} {Q : L2.St → Hp → Prop} (E : En X m F H σ δ) (hb : b = true → isMany t = true) (r : RPo X b F v d) (e : setTg t d δ = some δ')
    (h : ∀ σ', En X m F H σ' δ' → (∀ j, j ∉ slots t → σ'[j]? = σ[j]?) → σ'.length = σ.length → Q σ' H) : gT X.K t v σ H Q := by
  cases t with
  | one i =>
    cases b with
    | true => exact absurd (hb rfl) Bool.false_ne_true
    | false =>
    cases e
    refine h _ (E.set r) (fun j hj => ?_) (List.length_set ..)
    exact set_other fun z => hj (by rw [z]; exact List.mem_cons_self)
  | many is =>
    have key : ∀ (a : Addr) (vs : List V) (ds : List PyData), SqT X.K H a vs → RPA X F vs ds → setTg (.many is) (.tuple ds) δ = some δ' → gT X.K (.many is) (.ref a) σ H Q := by
      intro a vs ds ha ra e
      have e' : (if ds.length = is.length then some ((is.zip ds).foldl (fun δ p => δ.set p.1 (some (.sh p.2))) δ) else none) = some δ' := e
      split at e'
      · rename_i hl
        cases e'
        exact ⟨a, vs, rfl, ha, by rw [ra.length]; exact hl, gNames_ok is vs ds σ δ Q E ra hl h⟩
      · cases e'
    cases b with
    | true =>
      obtain ⟨a, vs, ds, rfl, ha, rfl, ra⟩ := r
      exact key a vs ds (SqT.of (E.sub _ _ ha)) ra e
    | false =>
      have r : RP X F v d := r
      cases r with
      | @tup a vs ds ha ra => exact key a vs ds (ha.mono E.sub).sq ra e
      | _ => cases e
theorem wipe_len : ∀ (vs : List Nat) (σ σ2 : L2.St), σ2.length = σ.length → (∀ j, j ∉ vs → σ2[j]? = σ[j]?) → wipe σ2 vs = wipe σ vs := fun vs σ σ2 hl h => by
  apply List.ext_getElem?
  intro j
  by_cases hj : j ∈ vs
  · have key : ∀ (τ : L2.St) (vs : List Nat), j ∈ vs → (wipe τ vs)[j]? = if j < τ.length then some none else none := by
      intro τ vs
      induction vs with
      | nil => intro z; cases z
      | cons v vs ih =>
        intro z
        unfold wipe
        rw [List.getElem?_set, wipe_length]
        by_cases q : v = j
        · rw [if_pos q, q]
        · rw [if_neg q]
          rcases List.mem_cons.mp z with y | y
          · exact absurd y.symm q
          · exact ih y
    rw [key σ2 vs hj, key σ vs hj, hl]
  · rw [wipe_out hj, wipe_out hj]
    exact h j hj
theorem En.wipe (E : En X m F H σ δ) (t : Tg) : En X m F H (wipe σ (slots t)) (wipeTg t δ) := by
  cases t with
  | one i => exact E.clear i
  | many is =>
    show En X m F H (L2.wipe σ is) (is.foldr (fun i δ => δ.set i none) δ)
    induction is with
    | nil => exact E
    | cons i is ih => exact ih.clear i

/-! ### what is walked -/
structure WkD (X : Wd) (b : Bool) (F0 : Hp) (xs : List PyData) (J : It) : Prop where
  w : ∃ (G : Hp → Prop) (Y : Nat → Hp → V → Hp → Prop), Walk J xs.length G Y ∧ (∀ H, Same F0 H → G H) ∧
    ∀ i F H x H', i < xs.length → Same F0 F → Same F H → Y i H x H' → ∃ F' d, xs[i]? = some d ∧ Ext F H F' H' ∧ RPo X b F' x d
/-- walks that give pairs -/
def pairs : IT → Bool
  | .enm _ => true
  | .zp _ _ => true
  | _ => false
def RzI (X : Wd) (b : Bool) (m : Mo) (σ : L2.St) (F H : Hp) : Res (List PyData) → (It → Hp → Prop) → Prop
  | .ok xs, Q => ∀ J F' H', Ext F H F' H' → WkD X b F' xs J → Q J H'
  | .err x, _ => ∃ C, m.C x = some C ∧ ∀ H', Same H H' → m.W (.ref C) none σ H'
  | .stuck, _ => False
def TIt (X : Wd) (m : Mo) (c : IT) : TI := fun σ H R => ∃ F δ, En X m F H σ δ ∧ RzI X (pairs c) m σ F H (evi m.g m.f c δ) R
theorem _root_.L2.PI.imp {X : Cx} {tg e : Expr} {t t' : TI} (h : PI X tg e t) (i : ∀ σ H Q, t' σ H Q → t σ H Q) : PI X tg e t' := ⟨fun pins s σ H Q I q => h.run pins s σ H Q I (i σ H Q q)⟩
theorem wk_list {a : Addr} {vs : List V} {ds : List PyData} (h : F a = some (.lst vs)) (r : RPA X F vs ds) : WkD X false F ds (Itl X.K a) := by
  have hw := walk_list (K := X.K) (a := a) (xs := vs)
  rw [r.length] at hw
  refine ⟨_, _, hw, fun H s => SqL.of (s _ _ h), fun i F1 H1 x H2 hi s1 s2 y => ?_⟩
  obtain ⟨rfl, e⟩ := y
  obtain ⟨d, e2, r2⟩ := r.get' e
  exact ⟨F1, d, e2, .refl s2, r2.mono s1⟩
theorem wk_tup {a : Addr} {vs : List V} {ds : List PyData} (h : TupAt F a vs) (r : RPA X F vs ds) : WkD X false F ds (Itt X.K a) := by
  have hw := walk_tup (K := X.K) (a := a) (xs := vs)
  rw [r.length] at hw
  refine ⟨_, _, hw, fun H s => (h.mono s).sq, fun i F1 H1 x H2 hi s1 s2 y => ?_⟩
  obtain ⟨rfl, e⟩ := y
  obtain ⟨d, e2, r2⟩ := r.get' e
  exact ⟨F1, d, e2, .refl s2, r2.mono s1⟩
theorem rangeD_len (i j : Int) : (rangeD i j).length = (j - i).toNat := by
  unfold rangeD
  rw [List.length_map, List.length_range]
theorem rangeD_get {i j : Int} {k : Nat} (h : k < (j - i).toNat) : (rangeD i j)[k]? = some (.int (i + k)) := by
  unfold rangeD
  rw [List.getElem?_map, List.getElem?_range h]
  rfl
theorem wk_range (i j : Int) : WkD X false F (rangeD i j) (Itr i (j - i).toNat) := by
  have hw := walk_range (lo := i) (n := (j - i).toNat)
  rw [← rangeD_len i j] at hw ⊢
  refine ⟨_, _, hw, fun H _ => trivial, fun k F1 H1 x H2 hk s1 s2 y => ?_⟩
  obtain ⟨rfl, rfl⟩ := y
  rw [rangeD_len] at hk
  exact ⟨F1, _, rangeD_get hk, .refl s2, Rp.int _⟩
/-- a part's value, then a walk -/
theorem T.oneI {b : Bool} {c : DE} {k : PyData → Res (List PyData)} {Q : It → Hp → Prop} (E : En X m F H σ δ) (h : RzI X b m σ F H ((ev m.g m.f c δ).bind k) Q)
    {R : V → Hp → Prop} (hk : ∀ d v F1 H1, Ext F H F1 H1 → En X m F1 H1 σ δ → RP X F1 v d → RzI X b m σ F1 H1 (k d) Q → R v H1) : T X m c σ H R := by
  refine ⟨F, δ, E, ?_⟩
  cases e : ev m.g m.f c δ with
  | ok d =>
    rw [e] at h
    intro v F1 H1 x r
    refine hk d v F1 H1 x (E.ext x) r ?_
    have h' : RzI X b m σ F H (k d) Q := h
    cases q : k d with
    | ok xs =>
      rw [q] at h'
      exact fun J F2 H2 x2 => h' J F2 H2 (x.trans x2)
    | err z =>
      rw [q] at h'
      exact err_on x.hh h'
    | stuck =>
      rw [q] at h'
      exact h'
  | err z =>
    rw [e] at h
    exact h
  | stuck =>
    rw [e] at h
    exact h
theorem pie_list {tg : Expr} {pins : List (Addr × Obj)} {z : Shared} {a : Addr} {xs : List V} {R : It → Hp → Prop} (J : Inv X pins σ H z) (hq : SqL X.K H a xs) (q : R (Itl X.K a) H) :
    wpAny (model X.prog X.w) X.A (pyIter (.ref a)) (PIE X pins σ tg R) X.xe z := by
  obtain ⟨us, _, pl, _⟩ := J.list hq
  refine wpAny_pyIter_list pl.isList ⟨z.heap.objs.size, [z.heap.objs.size], _, _, H, rfl, J.kept (t' := z.toks) (fun _ _ k => Heap.get?_push_of_some _ k), turn_list a _, ⟨_, Heap.get?_push_size _ rfl, rfl, rfl⟩, fun b hb => ?_, q⟩
  rw [List.mem_singleton] at hb
  rw [hb]
  exact J.fpOk (Nat.le_refl _) (J.hok.fresh (Nat.le_refl _))
theorem pie_tup {tg : Expr} {pins : List (Addr × Obj)} {z : Shared} {a : Addr} {xs : List V} {R : It → Hp → Prop} (J : Inv X pins σ H z) (hq : SqT X.K H a xs) (q : R (Itt X.K a) H) :
    wpAny (model X.prog X.w) X.A (pyIter (.ref a)) (PIE X pins σ tg R) X.xe z := by
  obtain ⟨us, _, pl, _⟩ := J.tuple hq
  refine wpAny_pyIter_tuple (show z.heap.IsTuple a us.toArray from pl) ⟨z.heap.objs.size, [z.heap.objs.size], _, _, H, rfl, J.kept (t' := z.toks) (fun _ _ k => Heap.get?_push_of_some _ k), turn_tuple a _, ⟨_, Heap.get?_push_size _ rfl, rfl, rfl⟩, fun b hb => ?_, q⟩
  rw [List.mem_singleton] at hb
  rw [hb]
  exact J.fpOk (Nat.le_refl _) (J.hok.fresh (Nat.le_refl _))
theorem i_seq {tg l : Expr} {c : DE} (h1 : PE X l (T X m c)) : PI X tg l (TIt X m (.seq c)) := by
  refine ⟨fun pins s σ H R I ⟨F, δ, E, h⟩ => ?_⟩
  have h2 : T X m c σ H fun v H1 => (∃ a xs, v = .ref a ∧ SqL X.K H1 a xs ∧ R (Itl X.K a) H1) ∨ ∃ a xs, v = .ref a ∧ SqT X.K H1 a xs ∧ R (Itt X.K a) H1 := by
    refine T.oneI E h fun d v F1 H1 x E1 r hq => ?_
    cases r with
    | @lst a vs ds ha ra => exact .inl ⟨a, vs, rfl, SqL.of (E1.sub _ _ ha), hq _ F1 H1 (.refl E1.sub) (wk_list ha ra)⟩
    | @tup a vs ds ha ra => exact .inr ⟨a, vs, rfl, (ha.mono E1.sub).sq, hq _ F1 H1 (.refl E1.sub) (wk_tup ha ra)⟩
    | _ => exact (show False from hq).elim
  refine thn (h1.run pins s σ H _ I h2) fun u s1 ⟨x, H1, I1, r1, q1⟩ => ?_
  rcases q1 with ⟨a, xs, rfl, hq, q⟩ | ⟨a, xs, rfl, hq, q⟩
  · cases r1
    exact pie_list I1 hq q
  · cases r1
    exact pie_tup I1 hq q
theorem small_ok {i : Int} (h : small i = true) : -(2 ^ 62) ≤ i ∧ i < 2 ^ 62 := by
  have h2 : -1000000 ≤ i ∧ i ≤ 1000000 := of_decide_eq_true h
  omega
theorem TL.oneI {b : Bool} {c : DEs} {k : List PyData → Res (List PyData)} {Q : It → Hp → Prop} (E : En X m F H σ δ) (h : RzI X b m σ F H ((evs m.g m.f c δ).bind k) Q)
    {R : List V → Hp → Prop} (hk : ∀ d v F1 H1, Ext F H F1 H1 → En X m F1 H1 σ δ → RPA X F1 v d → RzI X b m σ F1 H1 (k d) Q → R v H1) : TL X m c σ H R := by
  refine ⟨F, δ, E, ?_⟩
  cases e : evs m.g m.f c δ with
  | ok d =>
    rw [e] at h
    intro v F1 H1 x r
    refine hk d v F1 H1 x (E.ext x) r ?_
    have h' : RzI X b m σ F H (k d) Q := h
    cases q : k d with
    | ok xs =>
      rw [q] at h'
      exact fun J F2 H2 x2 => h' J F2 H2 (x.trans x2)
    | err z =>
      rw [q] at h'
      exact err_on x.hh h'
    | stuck =>
      rw [q] at h'
      exact h'
  | err z =>
    rw [e] at h
    exact h
  | stuck =>
    rw [e] at h
    exact h
theorem i_rng1 {tg a : Expr} {c : DE} {p pos : Pos} (hg : Gl X "range") (hm : X.mg "range" = none) (h1 : PE X a (T X m c)) (hs : starEach [a] X.env = [(false, eval a X.env)]) : PI X tg (.Call (.Name "range" p) [a] [] pos) (TIt X m (.rng1 c)) := by
  refine (pi_range1 hg hm (a_cons h1 a_nil hs) hs).imp fun σ H R ⟨F, δ, E, h⟩ => ?_
  have h' : RzI X false m σ F H ((evs m.g m.f (.cons c .nil) δ).bind fun ds => (match ds with
    | [.int n] => if small n then .ok (rangeD 0 n) else .stuck
    | _ => .stuck)) R := by
    have q : evi m.g m.f (.rng1 c) δ = (evs m.g m.f (.cons c .nil) δ).bind fun ds => (match ds with
      | [.int n] => if small n then .ok (rangeD 0 n) else .stuck
      | _ => .stuck) := by
      simp only [evi, evs]
      cases ev m.g m.f c δ with
      | ok d => cases d <;> rfl
      | _ => rfl
    rw [← q]
    exact h
  refine TL.oneI E h' fun d v F1 H1 x E1 r hq => ?_
  split at hq
  · rename_i n
    by_cases hs : small n = true
    · rw [if_pos hs] at hq
      cases r with
      | cons r1 r2 =>
        cases r2
        cases r1
        have z := small_ok hs
        refine ⟨n, rfl, z.1, z.2, ?_⟩
        have q := hq (Itr 0 (n - 0).toNat) F1 H1 (.refl E1.sub) (wk_range 0 n)
        rw [Int.sub_zero] at q
        exact q
    · rw [if_neg hs] at hq
      exact hq.elim
  · exact hq.elim
theorem i_rng2 {tg a b : Expr} {c d : DE} {p pos : Pos} (hg : Gl X "range") (hm : X.mg "range" = none) (h1 : PE X a (T X m c)) (h2 : PE X b (T X m d)) (hs : starEach [a, b] X.env = [(false, eval a X.env), (false, eval b X.env)]) (hs2 : starEach [b] X.env = [(false, eval b X.env)]) :
    PI X tg (.Call (.Name "range" p) [a, b] [] pos) (TIt X m (.rng2 c d)) := by
  refine (pi_range2 hg hm (a_cons h1 (a_cons h2 a_nil hs2) (by rw [hs, hs2])) hs hs2).imp fun σ H R ⟨F, δ, E, h⟩ => ?_
  have h' : RzI X false m σ F H ((evs m.g m.f (.cons c (.cons d .nil)) δ).bind fun ds => (match ds with
    | [.int i, .int j] => if small i && small j then .ok (rangeD i j) else .stuck
    | _ => .stuck)) R := by
    have q : evi m.g m.f (.rng2 c d) δ = (evs m.g m.f (.cons c (.cons d .nil)) δ).bind fun ds => (match ds with
      | [.int i, .int j] => if small i && small j then .ok (rangeD i j) else .stuck
      | _ => .stuck) := by
      simp only [evi, evs]
      cases ev m.g m.f c δ with
      | ok x =>
        show Res.bind (ev m.g m.f d δ) _ = Res.bind (Res.bind (Res.bind (ev m.g m.f d δ) _) _) _
        cases ev m.g m.f d δ with
        | ok y => cases x <;> cases y <;> rfl
        | _ => rfl
      | _ => rfl
    rw [← q]
    exact h
  refine TL.oneI E h' fun ds v F1 H1 x E1 r hq => ?_
  split at hq
  · rename_i i j
    by_cases hs : (small i && small j) = true
    · rw [if_pos hs] at hq
      rw [Bool.and_eq_true] at hs
      cases r with
      | cons r1 r2 =>
        cases r2 with
        | cons r2 r3 =>
          cases r3
          cases r1
          cases r2
          have z := small_ok hs.1
          have z2 := small_ok hs.2
          exact ⟨i, j, rfl, ⟨z.1, z.2, z2.1, z2.2⟩, hq (Itr i (j - i).toNat) F1 H1 (.refl E1.sub) (wk_range i j)⟩
    · rw [if_neg hs] at hq
      exact hq.elim
  · exact hq.elim
end
end Rh

set_option Elab.async false
set_option linter.all false
set_option maxRecDepth 100000
set_option maxHeartbeats 1000000
/-! List comprehensions. -/
namespace Rh
open PySem PySem.Spec PyProof.Rows L2
theorem lcLoop_snoc (body : PyData → Option (Option PyData)) : ∀ (l : List PyData) (x : PyData), lcLoop body (l ++ [x]) = (lcLoop body l).bind fun ys => (body x).map fun y => snocO ys y
  | [], x => by
    show (body x).bind _ = _
    cases e : body x with
    | none => rfl
    | some y => cases y <;> rfl
  | a :: l, x => by
    have ih := lcLoop_snoc body l x
    show (body a).bind (fun y => (lcLoop body (l ++ [x])).map _) = ((body a).bind fun y => (lcLoop body l).map _).bind _
    rw [ih]
    cases body a with
    | none => rfl
    | some y =>
      show ((lcLoop body l).bind _).map _ = ((lcLoop body l).map _).bind _
      cases lcLoop body l with
      | none => rfl
      | some ys =>
        show ((body x).map _).map _ = (body x).map _
        cases body x with
        | none => rfl
        | some z => cases y <;> cases z <;> rfl
theorem lcLoop_all {body : PyData → Option (Option PyData)} : ∀ {l : List PyData} {ys : List PyData}, lcLoop body l = some ys → ∀ x ∈ l, ∃ y, body x = some y
  | [], _, _, x, hx => by cases hx
  | a :: l, ys, h, x, hx => by
    have h' : (body a).bind (fun y => (lcLoop body l).map fun zs => consO y zs) = some ys := h
    obtain ⟨y, e1, h2⟩ := Option.bind_eq_some_iff.mp h'
    obtain ⟨zs, e2, _⟩ := Option.map_eq_some_iff.mp h2
    rcases List.mem_cons.mp hx with rfl | hx
    · exact ⟨y, e1⟩
    · exact lcLoop_all e2 x hx
theorem lcLoop_len {body : PyData → Option (Option PyData)} : ∀ {l : List PyData} {ys : List PyData}, lcLoop body l = some ys → ys.length ≤ l.length
  | [], ys, h => by
    cases h
    exact Nat.le_refl _
  | a :: l, ys, h => by
    have h' : (body a).bind (fun y => (lcLoop body l).map fun zs => consO y zs) = some ys := h
    obtain ⟨y, e1, h2⟩ := Option.bind_eq_some_iff.mp h'
    obtain ⟨zs, e2, e3⟩ := Option.map_eq_some_iff.mp h2
    have ih := lcLoop_len e2
    cases y with
    | none =>
      have e4 : zs = ys := e3
      rw [← e4, List.length_cons]
      omega
    | some y =>
      have e4 : y :: zs = ys := e3
      rw [← e4, List.length_cons, List.length_cons]
      omega
section
variable {F H F' H' : Hp} {p : Addr} {o : HO}
theorem Ext.free (x : Ext F H F' H') (n : F p = none) (h : H p = some o) : F' p = none := by
  cases e : F' p with
  | none => rfl
  | some u =>
    rcases x.new p u e with z | z
    · rw [n] at z
      cases z
    · rw [h] at z
      cases z
theorem Ext.updO (x : Ext F H F' H') (n : H p = none) (nf : F' p = none) : Ext F H F' (upd H' p o) := by
  refine ⟨x.ff, fun b u e => ?_, fun b u e => ?_, x.new⟩
  · rw [upd_ne (ne_of_none e nf)]
    exact x.fh b u e
  · rw [upd_ne (ne_of_none e n)]
    exact x.hh b u e
/-- a new object is frozen -/
theorem Ext.freeze (x : Ext F H F' H') (n : H p = none) (h : H' p = some o) (nf : F' p = none) : Ext F H (upd F' p o) H' := by
  refine ⟨fun b u e => ?_, fun b u e => ?_, x.hh, fun b u e => ?_⟩
  · rw [upd_ne (ne_of_none (x.ff _ _ e) nf)]
    exact x.ff b u e
  · by_cases hb : b = p
    · subst hb
      rw [upd_same] at e
      rw [← e]
      exact h
    · rw [upd_ne hb] at e
      exact x.fh b u e
  · by_cases hb : b = p
    · subst hb
      exact .inr n
    · rw [upd_ne hb] at e
      exact x.new b u e
end
def Mo.nox (m : Mo) : Mo := { m with W := fun _ _ _ _ => False }
section
variable {X : Cx} {m : Mo} {F H F' H' : Hp} {σ : L2.St} {δ : Ev}
theorem En.nox (E : En X m F H σ δ) : En X m.nox F H σ δ := ⟨E.sub, E.old, E.len, E.sh, E.own, E.apart⟩
def TBo (X : Wd) (m : Mo) (c : DO) : TT := fun σ H Q => ∃ F δ, En X m F H σ δ ∧ RzB X m σ F H (evc m.g m.f c δ) Q
theorem c_no : PTs X [] (TBo X m .no) := ⟨fun pins s σ H Q I ⟨F, δ, E, h⟩ => pts_nil.run pins s σ H Q I (h F H (.refl E.sub))⟩
theorem c_some {e : Expr} {c : DE} (h : PT X e (TB X m c)) : PTs X [e] (TBo X m (.some c)) := ⟨fun pins s σ H Q I ⟨F, δ, E, hq⟩ => (pts_one h).run pins s σ H Q I ⟨F, δ, E, hq⟩⟩
theorem okO_some {α : Type} {r : Res α} {a : α} (h : okO r = some a) : r = .ok a := by
  cases r with
  | ok b => cases h; rfl
  | err _ => cases h
  | stuck => cases h
/-- the reading of a comprehension -/
theorem lc_read {t : Tg} {it : IT} (hpt : pairs it = true → isMany t = true) {c : DO} {e : DE} {Q : VK} (E : En X m F H σ δ) (h : Rz X m σ F H (ev m.g m.f (.lc t it c e) δ) Q) :
    tLc (TIt X m it) (gT X.K t) (TBo X m.nox c) (T X m.nox e) (slots t) σ H Q := by
  refine ⟨F, δ, E, ?_⟩
  have h' : Rz X m σ F H ((evi m.g m.f it δ).bind fun xs => .ofO ((lcLoop (fun x => (setTg t x (wipeTg t δ)).bind fun δ' => (okO (evc m.g m.f c δ')).bind fun k =>
      if k then (okO (ev m.g m.f e δ')).map some else some none) xs).bind fun ys => if xs.length ≤ lim then some (.list ys) else none)) Q := h
  cases ei : evi m.g m.f it δ with
  | err z =>
    rw [ei] at h'
    exact h'
  | stuck =>
    rw [ei] at h'
    exact h'
  | ok xs =>
    rw [ei] at h'
    obtain ⟨dd, e1, q⟩ := ofO_some h'
    clear h h'
    generalize hb : (fun x => (setTg t x (wipeTg t δ)).bind fun δ' => (okO (evc m.g m.f c δ')).bind fun k => if k then (okO (ev m.g m.f e δ')).map some else some none) = body at e1
    obtain ⟨ys, e2, e3⟩ := Option.bind_eq_some_iff.mp e1
    split at e3
    · rename_i hlim
      cases e3
      intro J F1 H1 x1 wk D nD
      obtain ⟨G, Y, hw, hG, hY⟩ := wk.w
      have E1 : En X m.nox F1 H1 (wipe σ (slots t)) (wipeTg t δ) := ((E.ext x1).nox).wipe t
      have nF1 : F1 D = none := x1.fh.free nD
      refine lc_it hw (fun i H2 => ∃ F2 acc zs, Ext F1 H1 F2 H2 ∧ F2 D = none ∧ H2 D = some (.lst acc) ∧ lcLoop body (xs.take i) = some zs ∧ RPA X F2 acc zs)
        ⟨F1, [], [], Ext.heap x1.fh nD, nF1, upd_same, by rw [List.take_zero]; rfl, .nil⟩
        (fun i H2 _ ⟨F2, acc, zs, x2, _⟩ => hG H2 (x2.ff.trans x2.fh)) (fun i x H2 H3 hi ⟨F2, acc, zs, x2, n2, hD, ez, ra⟩ y => ?_) (fun H2 ⟨F2, acc, zs, x2, n2, hD, ez, ra⟩ => ?_)
      · obtain ⟨F3, d, ed, x3, rd⟩ := hY i F2 H2 x H3 hi x2.ff x2.fh y
        obtain ⟨r, er⟩ := lcLoop_all e2 d (List.mem_of_getElem? ed)
        have esn : lcLoop body (xs.take (i + 1)) = some (snocO zs r) := by
          have q1 : xs.take (i + 1) = xs.take i ++ [d] := by
            rw [List.take_add_one, ed]
            rfl
          rw [q1, lcLoop_snoc, ez, er]
          rfl
        have er' : ((setTg t d (wipeTg t δ)).bind fun δ' => (okO (evc m.g m.f c δ')).bind fun k => if k then (okO (ev m.g m.f e δ')).map some else some none) = some r := by
          rw [← er, ← hb]
        obtain ⟨δ', e4, er2⟩ := Option.bind_eq_some_iff.mp er'
        obtain ⟨k, e5, er3⟩ := Option.bind_eq_some_iff.mp er2
        have e6 := okO_some e5
        have E3 : En X m.nox F3 H3 (wipe σ (slots t)) (wipeTg t δ) := E1.ext (x2.trans x3)
        have hD3 := x3.hh _ _ hD
        have n3 := x3.free n2 hD
        refine gT_ok E3 hpt rd e4 fun σ' E' ho hl => ⟨?_, F3, δ', E', ?_⟩
        · have z := wipe_len (slots t) (wipe σ (slots t)) σ' hl ho
          rw [z]
          exact wipe_len (slots t) σ (wipe σ (slots t)) (wipe_length ..) fun j hj => wipe_out hj
        · show RzB X m.nox σ' F3 H3 (evc m.g m.f c δ') _
          rw [e6]
          intro F4 H4 x4
          have hD4 := x4.hh _ _ hD3
          have n4 := x4.free n3 hD3
          cases k with
          | false =>
            refine iteF ?_
            cases er3
            exact ⟨F4, acc, zs, (x2.trans x3).trans x4, n4, hD4, esn, ra.mono (x3.trans x4).ff⟩
          | true =>
            refine iteT ⟨F4, δ', E'.ext x4, ?_⟩
            obtain ⟨y, e7, e8⟩ := Option.map_eq_some_iff.mp er3
            subst e8
            show Rz X m.nox σ' F4 H4 (ev m.g m.f e δ') _
            rw [okO_some e7]
            intro v F5 H5 x5 rv
            have hD5 := x5.hh _ _ hD4
            have n5 := x5.free n4 hD4
            have hl2 : acc.length ≤ i := by
              rw [ra.length]
              have z := lcLoop_len ez
              rw [List.length_take] at z
              omega
            refine ⟨acc, hD5, ?_, F5, acc ++ [v], zs ++ [y], (((x2.trans x3).trans x4).trans x5).updO nD n5, n5, upd_same, esn, (ra.mono ((x3.trans x4).trans x5).ff).append (.one rv)⟩
            have z1 : lim = 1000000 := rfl
            rw [sizeLine_eq]
            omega
      · rw [List.take_length, e2] at ez
        cases ez
        have x3 := x2.freeze nD hD n2
        exact q _ _ _ (x1.trans x3) (.lst upd_same (ra.mono (same_upd n2)))
    · cases e3
theorem e_lc {elt tg iter : Expr} {ifs : List Expr} {scope : Scope} {own : List (Str × Nat)} {pos : Pos} {t : Tg} {it : IT} {c : DO} {e : DE} (hpt : pairs it = true → isMany t = true) (hc : X.calm = true) (hN : X.N.Nodup) (hi : PI X tg iter (TIt X m it)) (ok : BlkOk X.N X.env.scope scope own) (hsl : own.map (·.2) = slots t)
    (hg : ∀ (s : Shared) (H : Hp) (C : Addr) (cl : List (Str × Addr)) (fp : List Addr), PG (X.blk s H scope (compEnvC scope cl C X.env) fp) tg (gT X.K t))
    (ht : ∀ (s : Shared) (H : Hp) (C : Addr) (cl : List (Str × Addr)) (fp : List Addr), PTs (X.blk s H scope (compEnvC scope cl C X.env) fp) ifs (TBo X m.nox c))
    (he : ∀ (s : Shared) (H : Hp) (C : Addr) (cl : List (Str × Addr)) (fp : List Addr), PE (X.blk s H scope (compEnvC scope cl C X.env) fp) elt (T X m.nox e)) (hs : ∀ x, foldedSetIterable iter X.env x = pure x) :
    PE X (.ListComp elt [⟨tg, iter, ifs, 0⟩] scope pos) (T X m (.lc t it c e)) := by
  have z := pe_lc (pos := pos) hc hN hi ok hg ht he hs
  rw [hsl] at z
  exact z.imp fun σ H Q ⟨F, δ, E, h⟩ => lc_read hpt E h
end
end Rh

set_option Elab.async false
set_option linter.all false
set_option maxRecDepth 100000
set_option maxHeartbeats 1000000
/-! Statements. -/
namespace Rh
open PySem PySem.Spec PyProof.Rows L2
/-- what is frozen more was not there at the entry -/
structure Fz (m : Mo) (F F' : Hp) : Prop where
  ff : Same F F'
  new : ∀ b o, F' b = some o → F b = some o ∨ m.H0 b = none
theorem Fz.refl {m : Mo} {F : Hp} : Fz m F F := ⟨Same.refl _, fun _ _ h => .inl h⟩
theorem Fz.trans {m : Mo} {F F1 F2 : Hp} (a : Fz m F F1) (b : Fz m F1 F2) : Fz m F F2 := ⟨a.ff.trans b.ff, fun c o h => by
  rcases b.new c o h with z | z
  · exact a.new c o z
  · exact .inr z⟩
def RzS (X : Wd) (m : Mo) (F : Hp) (D : Ends) : Out → Prop
  | .nx δ => ∀ σ' F' H', En X m F' H' σ' δ → Fz m F F' → D.nx σ' H'
  | .bk δ => ∀ σ' F' H', En X m F' H' σ' δ → Fz m F F' → D.bk σ' H'
  | .ct δ => ∀ σ' F' H', En X m F' H' σ' δ → Fz m F F' → D.ct σ' H'
  | .rt d => ∀ v F' H', Fz m F F' → Same F' H' → Same m.H0 H' → RP X F' v d → D.rt v H'
  | .err x => ∃ C, m.C x = some C ∧ ∀ σ' H', Same m.H0 H' → m.W (.ref C) none σ' H'
  | .stuck => False
def SS (X : Wd) (m : Mo) (c : DS) : TS := fun D σ H => ∃ F δ, En X m F H σ δ ∧ RzS X m F D (exec m.g m.f c δ)
def SL (X : Wd) (m : Mo) (c : List DS) : TS := fun D σ H => ∃ F δ, En X m F H σ δ ∧ RzS X m F D (execs m.g m.f c δ)
section
variable {X : Cx} {m : Mo} {F H F' H' : Hp} {σ : L2.St} {δ : Ev} {D : Ends}
theorem Ext.fz (E : En X m F H σ δ) (x : Ext F H F' H') : Fz m F F' := ⟨x.ff, fun b o h => by
  rcases x.new b o h with z | z
  · exact .inl z
  · exact .inr (E.old.free z)⟩
theorem RzS.mono {o : Out} (z : Fz m F F') (h : RzS X m F D o) : RzS X m F' D o := by
  cases o with
  | nx δ => exact fun σ' F2 H2 E q => h σ' F2 H2 E (z.trans q)
  | bk δ => exact fun σ' F2 H2 E q => h σ' F2 H2 E (z.trans q)
  | ct δ => exact fun σ' F2 H2 E q => h σ' F2 H2 E (z.trans q)
  | rt d => exact fun v F2 H2 q => h v F2 H2 (z.trans q)
  | err x => exact h
  | stuck => exact h
theorem RzS.err {x : Str} (E : En X m F H σ δ) (h : RzS X m F D (.err x)) : ∃ C, m.C x = some C ∧ ∀ H', Same H H' → m.W (.ref C) none σ H' := by
  obtain ⟨C, e, q⟩ := h
  exact ⟨C, e, fun H' s => q σ H' (E.old.trans s)⟩
/-- an expression's value, then what follows -/
theorem T.st {c : DE} {k : PyData → Out} (E : En X m F H σ δ) (h : RzS X m F D (.ofR (ev m.g m.f c δ) k)) {R : V → Hp → Prop}
    (hk : ∀ d v F1 H1, Ext F H F1 H1 → En X m F1 H1 σ δ → RP X F1 v d → RzS X m F1 D (k d) → R v H1) : T X m c σ H R := by
  refine ⟨F, δ, E, ?_⟩
  cases e : ev m.g m.f c δ with
  | ok d =>
    rw [e] at h
    exact fun v F1 H1 x r => hk d v F1 H1 x (E.ext x) r (RzS.mono (x.fz E) h)
  | err z =>
    rw [e] at h
    exact RzS.err E h
  | stuck =>
    rw [e] at h
    exact h
theorem TL.st {c : DEs} {k : List PyData → Out} (E : En X m F H σ δ) (h : RzS X m F D (.ofR (evs m.g m.f c δ) k)) {R : List V → Hp → Prop}
    (hk : ∀ d v F1 H1, Ext F H F1 H1 → En X m F1 H1 σ δ → RPA X F1 v d → RzS X m F1 D (k d) → R v H1) : TL X m c σ H R := by
  refine ⟨F, δ, E, ?_⟩
  cases e : evs m.g m.f c δ with
  | ok d =>
    rw [e] at h
    exact fun v F1 H1 x r => hk d v F1 H1 x (E.ext x) r (RzS.mono (x.fz E) h)
  | err z =>
    rw [e] at h
    exact RzS.err E h
  | stuck =>
    rw [e] at h
    exact h

/-! ### blocks -/
theorem ss_nil : PSs X [] (SL X m []) := pss_nil.imp fun D σ H ⟨F, δ, E, h⟩ => h σ F H E .refl
theorem ss_cons {st : Stmt} {rest : List Stmt} {c : DS} {cs : List DS} (h1 : PS X st (SS X m c)) (h2 : PSs X rest (SL X m cs)) : PSs X (st :: rest) (SL X m (c :: cs)) := by
  refine (pss_cons h1 h2).imp fun D σ H ⟨F, δ, E, h⟩ => ⟨F, δ, E, ?_⟩
  have h' : RzS X m F D (match exec m.g m.f c δ with
    | .nx δ' => execs m.g m.f cs δ'
    | o => o) := h
  cases e : exec m.g m.f c δ with
  | nx δ2 =>
    rw [e] at h'
    exact fun σ2 F2 H2 E2 z => ⟨F2, δ2, E2, RzS.mono z h'⟩
  | bk δ2 =>
    rw [e] at h'
    exact h'
  | ct δ2 =>
    rw [e] at h'
    exact h'
  | rt d =>
    rw [e] at h'
    exact h'
  | err x =>
    rw [e] at h'
    exact h'
  | stuck =>
    rw [e] at h'
    exact h'
/-- a ghost: the own object in slot i is changed no more -/
theorem En.freeze (E : En X m F H σ δ) {i : Nat} {d : PyData} (e : δ[i]? = some (some (.own d))) : ∃ F', En X m F' H σ (slot δ i (.sh d)) ∧ Fz m F F' := by
  obtain ⟨p, e1, nf, n0, o⟩ := E.own i d e
  obtain ⟨u, hu⟩ := o.some
  have sF : Same F (upd F p u) := same_upd nf
  have sub : Same (upd F p u) H := fun b w q => by
    by_cases hb : b = p
    · subst hb
      rw [upd_same] at q
      rw [← q]
      exact hu
    · rw [upd_ne hb] at q
      exact E.sub b w q
  have rp : RP X (upd F p u) (.ref p) d := by
    cases d with
    | list ds =>
      obtain ⟨xs, z, r⟩ := o
      rw [hu] at z
      cases z
      exact .lst upd_same (r.mono sF)
    | dict kvs =>
      obtain ⟨xs, z, r⟩ := o
      rw [hu] at z
      cases z
      exact .dic upd_same (r.mono sF)
    | _ => exact o.elim
  refine ⟨upd F p u, ⟨sub, E.old, by unfold slot; rw [List.length_set, E.len], fun j e2 h => ?_, fun j e2 h => ?_, fun j k e2 e3 q hjk h1 h2 => ?_⟩, sF, fun b w q => ?_⟩
  · rcases set_at h with ⟨rfl, _, z⟩ | ⟨hn, z⟩
    · injection z with z
      injection z with z
      subst z
      exact ⟨_, e1, rp⟩
    · obtain ⟨w, z1, z2⟩ := E.sh j e2 z
      exact ⟨w, z1, z2.mono sF⟩
  · rcases set_at h with ⟨rfl, _, z⟩ | ⟨hn, z⟩
    · injection z with z
      cases z
    · obtain ⟨q, z1, z2, z3, z4⟩ := E.own j e2 z
      have hne : q ≠ p := fun y => E.apart i j d e2 p hn e z e1 (by rw [← y]; exact z1)
      refine ⟨q, z1, by rw [upd_ne hne]; exact z2, z3, ?_⟩
      cases e2 with
      | list ds =>
        obtain ⟨xs, y, r⟩ := z4
        exact ⟨xs, y, r.mono sF⟩
      | dict kvs =>
        obtain ⟨xs, y, r⟩ := z4
        exact ⟨xs, y, r.mono sF⟩
      | _ => exact z4.elim
  · rcases set_at h1 with ⟨_, _, z⟩ | ⟨n1, z1⟩
    · injection z with z
      cases z
    · rcases set_at h2 with ⟨_, _, z⟩ | ⟨n2, z2⟩
      · injection z with z
        cases z
      · exact E.apart j k e2 e3 q hjk z1 z2
  · by_cases hb : b = p
    · rw [hb]
      exact .inr n0
    · rw [upd_ne hb] at q
      exact .inl q
theorem ss_frz {rest : List Stmt} {i : Nat} {cs : List DS} (h2 : PSs X rest (SL X m cs)) : PSs X rest (SL X m (.frz i :: cs)) := by
  refine h2.imp fun D σ H ⟨F, δ, E, h⟩ => ?_
  have h' : RzS X m F D (match (match δ[i]? with
    | some (some (.own d)) => Out.nx (slot δ i (.sh d))
    | _ => .stuck) with
    | .nx δ' => execs m.g m.f cs δ'
    | o => o) := h
  cases e : δ[i]? with
  | none =>
    rw [e] at h'
    exact h'.elim
  | some o =>
    cases o with
    | none =>
      rw [e] at h'
      exact h'.elim
    | some sl =>
      cases sl with
      | sh d =>
        rw [e] at h'
        exact h'.elim
      | own d =>
        rw [e] at h'
        obtain ⟨F2, E2, z⟩ := E.freeze e
        exact ⟨F2, _, E2, RzS.mono z h'⟩

/-! ### stores -/
theorem s_set {i : Nat} {x : Str} {e : Expr} {c : DE} {pos pos' : Pos} (hN : X.N.Nodup) (hi : X.N[i]? = some x) (hx : Loc X.env.scope x) (h1 : PE X e (T X m c)) (hs : swapsWith e (some (.Name x pos')) pos.line X.env = pure false) (hf : X.fn x = true ∨ X.env.scope.names.lookup x = some .local) :
    PS X (.Assign [.Name x pos'] e pos) (SS X m (.set i c)) := by
  refine (ps_set hN hi hx h1 hs hf).imp fun D σ H ⟨F, δ, E, h⟩ => ?_
  exact T.st E h fun d v F1 H1 x1 E1 r hq => hq _ F1 H1 (E1.set r) .refl
theorem s_setLc {i : Nat} {y : Str} {py : Pos} {elt tg iter : Expr} {ifs : List Expr} {scope : Scope} {own : List (Str × Nat)} {pos spos : Pos} {t : Tg} {it : IT} {c : DO} {e : DE} (hpt : pairs it = true → isMany t = true) (hc : X.calm = true) (hN : X.N.Nodup) (hy : X.N[i]? = some y) (hyl : X.env.scope.names.lookup y = some .local)
    (hsw : swapsWith (.ListComp elt [⟨tg, iter, ifs, 0⟩] scope pos) (some (.Name y py)) spos.line X.env = pure true) (hi : PI X tg iter (TIt X m it)) (ok : BlkOk X.N X.env.scope scope own) (hsl : own.map (·.2) = slots t)
    (hg : ∀ (s : Shared) (H : Hp) (C : Addr) (cl : List (Str × Addr)) (fp : List Addr), PG (X.blk s H scope (compEnvC scope cl C X.env) fp) tg (gT X.K t))
    (ht : ∀ (s : Shared) (H : Hp) (C : Addr) (cl : List (Str × Addr)) (fp : List Addr), PTs (X.blk s H scope (compEnvC scope cl C X.env) fp) ifs (TBo X m.nox c))
    (he : ∀ (s : Shared) (H : Hp) (C : Addr) (cl : List (Str × Addr)) (fp : List Addr), PE (X.blk s H scope (compEnvC scope cl C X.env) fp) elt (T X m.nox e)) (hs : ∀ x, foldedSetIterable iter X.env x = pure x) :
    PS X (.Assign [.Name y py] (.ListComp elt [⟨tg, iter, ifs, 0⟩] scope pos) spos) (SS X m (.set i (.lc t it c e))) := by
  have z := ps_setLc (pos := pos) (spos := spos) hc hN hy hyl hsw hi ok hg ht he hs
  rw [hsl] at z
  refine z.imp fun D σ H ⟨F, δ, E, h⟩ => ?_
  have p : T X m (.lc t it c e) σ H fun v H1 => D.nx (σ.set i (some v)) H1 := T.st E h fun d v F1 H1 x1 E1 r hq => hq _ F1 H1 (E1.set r) .refl
  obtain ⟨F2, δ2, E2, h2⟩ := p
  exact lc_read hpt E2 h2
theorem s_setT {tg e : Expr} {is : List Nat} {c : DE} {pos : Pos} (hg : PG X tg (gT X.K (.many is))) (h1 : PE X e (T X m c)) (hs : swapsWithSole [tg] e pos.line X.env = pure false) (hw : swappedStores [tg] e X.env = pure none)
    (ha : (assignEach [tg] X.env).map (·.2) = [assign tg X.env]) : PS X (.Assign [tg] e pos) (SS X m (.setT is c)) := by
  refine (ps_asg h1 hg hs hw ha).imp fun D σ H ⟨F, δ, E, h⟩ => ?_
  refine T.st E h fun d v F1 H1 x1 E1 r hq => ?_
  cases e2 : setTg (.many is) d δ with
  | none =>
    rw [e2] at hq
    exact hq.elim
  | some δ2 =>
    rw [e2] at hq
    exact gT_ok (b := false) E1 (fun z => absurd z Bool.false_ne_true) r e2 fun σ2 E2 _ _ => hq σ2 F1 H1 E2 .refl
theorem s_newL {i : Nat} {x : Str} {es : List Expr} {cs : DEs} {pos pos' lp : Pos} (hN : X.N.Nodup) (hi : X.N[i]? = some x) (hx : Loc X.env.scope x) (h1 : PA X es (TL X m cs)) (hf : X.fn x = true ∨ X.env.scope.names.lookup x = some .local) :
    PS X (.Assign [.Name x pos'] (.List es lp) pos) (SS X m (.newL i cs)) := by
  refine (ps_set hN hi hx (pe_lst (pos := lp) h1) rfl hf).imp fun D σ H ⟨F, δ, E, h⟩ => ?_
  refine TL.st E h fun d v F1 H1 x1 E1 r hq => ?_
  by_cases hl : d.length ≤ lim
  · rw [if_pos hl] at hq
    refine ⟨by rw [r.length]; exact lim_line hl, fun p np => ?_⟩
    have nf : F1 p = none := E1.sub.free np
    have n0 : m.H0 p = none := E1.old.free np
    have E2 : En X m F1 (upd H1 p (.lst v)) σ δ := E1.updO nf n0 (E1.fresh np)
    exact hq _ F1 _ (E2.setOwn nf n0 ⟨v, upd_same, r⟩ fun j e _ hj => E1.fresh np j e hj) .refl
  · rw [if_neg hl] at hq
    exact hq.elim
/-- the own object in slot i is changed -/
theorem En.write (E : En X m F H σ δ) {i : Nat} {p : Addr} {d d' : PyData} {o : HO} (e : δ[i]? = some (some (.own d))) (ep : σ[i]? = some (some (.ref p))) (h : Ow X F (upd H p o) p d') : En X m F (upd H p o) σ (slot δ i (.own d')) := by
  obtain ⟨q, e1, nf, n0, ow⟩ := E.own i d e
  have eq : q = p := by
    rw [e1] at ep
    injection ep with ep
    injection ep with ep
    injection ep
  subst eq
  refine ⟨fun b u z => by rw [upd_ne (ne_of_none z nf)]; exact E.sub b u z, fun b u z => by rw [upd_ne (ne_of_none z n0)]; exact E.old b u z, by unfold slot; rw [List.length_set, E.len], fun j e2 h2 => ?_, fun j e2 h2 => ?_, fun j k e2 e3 y hjk h1 h2 h3 => ?_⟩
  · rcases set_at h2 with ⟨_, _, z⟩ | ⟨_, z⟩
    · injection z with z
      cases z
    · exact E.sh j e2 z
  · rcases set_at h2 with ⟨rfl, _, z⟩ | ⟨hn, z⟩
    · injection z with z
      injection z with z
      subst z
      exact ⟨q, e1, nf, n0, h⟩
    · obtain ⟨y, z1, z2, z3, z4⟩ := E.own j e2 z
      have hne : y ≠ q := fun w => E.apart i j d e2 q hn e z e1 (by rw [← w]; exact z1)
      refine ⟨y, z1, z2, z3, ?_⟩
      cases e2 with
      | list ds =>
        obtain ⟨xs, w, r⟩ := z4
        exact ⟨xs, by rw [upd_ne hne]; exact w, r⟩
      | dict kvs =>
        obtain ⟨xs, w, r⟩ := z4
        exact ⟨xs, by rw [upd_ne hne]; exact w, r⟩
      | _ => exact z4.elim
  · have old : ∀ (j : Nat) (e2 : PyData), (slot δ i (.own d'))[j]? = some (some (.own e2)) → ∃ e3, δ[j]? = some (some (.own e3)) := fun j e2 z => by
      rcases set_at z with ⟨rfl, _, _⟩ | ⟨_, z⟩
      · exact ⟨d, e⟩
      · exact ⟨e2, z⟩
    obtain ⟨a1, b1⟩ := old j e2 h1
    obtain ⟨a2, b2⟩ := old k e3 h2
    exact E.apart j k a1 a2 y hjk b1 b2 h3
theorem own_at (E : En X m F H σ δ) {i : Nat} {d : PyData} (e : δ[i]? = some (some (.own d))) : ∃ p, σ[i]? = some (some (.ref p)) ∧ Ow X F H p d := by
  obtain ⟨p, e1, _, _, o⟩ := E.own i d e
  exact ⟨p, e1, o⟩
theorem slot_own {δ : Ev} {i : Nat} {k : List PyData → Out} {D : Ends} {X : Wd} (h : RzS X m F D (match δ[i]? with
    | some (some (.own (.list xs))) => k xs
    | _ => .stuck)) : ∃ xs, δ[i]? = some (some (.own (.list xs))) ∧ RzS X m F D (k xs) := by
  split at h
  · rename_i xs e
    exact ⟨xs, e, h⟩
  · exact h.elim
theorem lim_lt {n : Nat} (h : n < lim) : n < sizeLine := by
  have e : lim = 1000000 := rfl
  rw [sizeLine_eq]
  omega
theorem s_app {i : Nat} {x : Str} {e : Expr} {c : DE} {np apos cpos pos : Pos} (hN : X.N[i]? = some x) (hv : Vis X.env.scope x) (hd : (x == ("__debug__" : Str)) = false) (hcd : (x == ("__classdict__" : Str)) = false) (h1 : PE X e (T X m c))
    (hs : starEach [e] X.env = (false, eval e X.env) :: starEach [] X.env) (hline : (apos.endLine == cpos.line) = true) :
    PS X (.Expr (.Call (.Attribute (.Name x np) "append" apos) [e] [] cpos) pos) (SS X m (.app i c)) := by
  refine (ps_expr (pe_bm PySem.F.plainAttrs_list PySem.F.slot_list_append PySem.F.type_list_append mt_append (pe_var hN hv hd hcd) (pa_cons h1 pa_nil hs) rfl (by rw [hs]; rfl) hline hs rfl) rfl).imp fun D σ H ⟨F, δ, E, h⟩ => ?_
  obtain ⟨ds, ei, h2⟩ := slot_own (X := X) h
  obtain ⟨p, ep, xs, hp, r⟩ := own_at E ei
  refine ⟨.ref p, ep, .inl ⟨rfl, xs, SqL.of hp⟩, ?_⟩
  refine T.st E h2 fun d v F1 H1 x1 E1 rv hq => ?_
  by_cases hl : ds.length < lim
  · rw [if_pos hl] at hq
    refine ⟨p, xs, v, rfl, rfl, x1.hh _ _ hp, lim_lt (by rw [r.length]; exact hl), ?_⟩
    exact hq σ F1 _ (E1.write ei ep ⟨xs ++ [v], upd_same, (r.mono x1.ff).append (.one rv)⟩) .refl
  · rw [if_neg hl] at hq
    exact hq.elim
theorem s_ext {i : Nat} {x : Str} {e : Expr} {c : DE} {np apos cpos pos : Pos} (hN : X.N[i]? = some x) (hv : Vis X.env.scope x) (hd : (x == ("__debug__" : Str)) = false) (hcd : (x == ("__classdict__" : Str)) = false) (h1 : PE X e (T X m c))
    (hs : starEach [e] X.env = (false, eval e X.env) :: starEach [] X.env) (hline : (apos.endLine == cpos.line) = true) :
    PS X (.Expr (.Call (.Attribute (.Name x np) "extend" apos) [e] [] cpos) pos) (SS X m (.ext i c)) := by
  refine (ps_expr (pe_bm PySem.F.plainAttrs_list PySem.F.slot_list_extend PySem.F.type_list_extend mt_extend (pe_var hN hv hd hcd) (pa_cons h1 pa_nil hs) rfl (by rw [hs]; rfl) hline hs rfl) rfl).imp fun D σ H ⟨F, δ, E, h⟩ => ?_
  obtain ⟨ds, ei, h2⟩ := slot_own (X := X) h
  obtain ⟨p, ep, xs, hp, r⟩ := own_at E ei
  refine ⟨.ref p, ep, .inl ⟨rfl, xs, SqL.of hp⟩, ?_⟩
  refine T.st E h2 fun d v F1 H1 x1 E1 rv hq => ?_
  cases rv with
  | @lst b ys es hb rb =>
    have hq' : RzS X m F1 D (if ds.length + es.length ≤ lim then .nx (slot δ i (.own (.list (ds ++ es)))) else .stuck) := hq
    by_cases hl : ds.length + es.length ≤ lim
    · rw [if_pos hl] at hq'
      refine ⟨p, b, xs, ys, rfl, rfl, x1.hh _ _ hp, E1.sub _ _ hb, lim_line (by rw [r.length, rb.length]; exact hl), ?_⟩
      exact hq' σ F1 _ (E1.write ei ep ⟨xs ++ ys, upd_same, (r.mono x1.ff).append rb⟩) .refl
    · rw [if_neg hl] at hq'
      exact hq'.elim
  | _ => exact (show False from hq).elim
theorem s_aug {i : Nat} {x : Str} {e : Expr} {c : DE} {op : Operator} {pos pos' : Pos} (hop : op = .Add) (hN : X.N.Nodup) (hi : X.N[i]? = some x) (hx : Loc X.env.scope x) (h1 : PE X e (T X m c)) (hf : X.fn x = true ∨ X.env.scope.names.lookup x = some .local) :
    PS X (.AugAssign (.Name x pos') op e pos) (SS X m (.aug i op c)) := by
  subst hop
  refine (ps_aug hN hi hx h1 ip_add hf).imp fun D σ H ⟨F, δ, E, h⟩ => ?_
  have h' : RzS X m F D (match δ[i]?, Operator.Add with
    | some (some (.sh (.int a))), .Add => .ofR (ev m.g m.f c δ) fun d => (match d with
      | .int b => .nx (slot δ i (.sh (.int (a + b))))
      | _ => .stuck)
    | _, _ => .stuck) := h
  split at h'
  · rename_i a ei _
    obtain ⟨v, ev1, r1⟩ := E.sh i _ ei
    cases r1
    refine ⟨_, ev1, T.st E h' fun d v F1 H1 x1 E1 rv hq => ?_⟩
    cases rv with
    | int b => exact ⟨a, b, rfl, rfl, hq _ F1 H1 (E1.set (.int _)) .refl⟩
    | _ => exact (show False from hq).elim
  · exact h'.elim
theorem s_expr {e : Expr} {c : DE} {pos : Pos} (h1 : PE X e (T X m c)) (hs : swapsWith e none pos.line X.env = pure false) : PS X (.Expr e pos) (SS X m (.expr c)) := by
  refine (ps_expr h1 hs).imp fun D σ H ⟨F, δ, E, h⟩ => ?_
  exact T.st E h fun d v F1 H1 x1 E1 rv hq => hq σ F1 H1 E1 .refl
theorem s_ret {e : Expr} {c : DE} {pos : Pos} (h1 : PE X e (T X m c)) : PS X (.Return (some e) pos) (SS X m (.ret c)) := by
  refine (ps_ret h1).imp fun D σ H ⟨F, δ, E, h⟩ => ?_
  exact T.st E h fun d v F1 H1 x1 E1 rv hq => hq v F1 H1 .refl E1.sub E1.old rv
theorem s_retN {pos : Pos} : PS X (.Return none pos) (SS X m .retN) := ps_retN.imp fun D σ H ⟨F, δ, E, h⟩ => h .non F H .refl E.sub E.old .non
theorem s_if {t : Expr} {a b : List Stmt} {c : DE} {ca cb : List DS} {pos : Pos} (h1 : PT X t (TB X m c)) (h2 : PSs X a (SL X m ca)) (h3 : PSs X b (SL X m cb)) : PS X (.If t a b pos) (SS X m (.ite c ca cb)) := by
  refine (ps_if h1 h2 h3).imp fun D σ H ⟨F, δ, E, h⟩ => ⟨F, δ, E, ?_⟩
  have h' : RzS X m F D (.ofR (ev m.g m.f c δ) fun x => (match truth x with
    | some true => execs m.g m.f ca δ
    | some false => execs m.g m.f cb δ
    | none => .stuck)) := h
  unfold evt
  cases e : ev m.g m.f c δ with
  | err z =>
    rw [e] at h'
    exact RzS.err E h'
  | stuck =>
    rw [e] at h'
    exact h'
  | ok x =>
    rw [e] at h'
    show RzB X m σ F H (.ofO (truth x)) _
    have h2 : RzS X m F D (match truth x with
      | some true => execs m.g m.f ca δ
      | some false => execs m.g m.f cb δ
      | none => .stuck) := h'
    cases e2 : truth x with
    | none =>
      rw [e2] at h2
      exact h2.elim
    | some k =>
      rw [e2] at h2
      intro F1 H1 x1
      cases k with
      | true => exact iteT ⟨F1, δ, E.ext x1, RzS.mono (x1.fz E) h2⟩
      | false => exact iteF ⟨F1, δ, E.ext x1, RzS.mono (x1.fz E) h2⟩
theorem s_for {tg iter : Expr} {body : List Stmt} {t : Tg} {it : IT} {cb : List DS} {pos : Pos} (hpt : pairs it = true → isMany t = true) (hp : PassesOwn (model X.prog X.w) X.A X.env X.xe) (hc : X.calm = true) (hi : PI X tg iter (TIt X m it)) (hg : PG X tg (gT X.K t)) (hb : PSs X body (SL X m cb))
    (hs : ∀ x, foldedSetIterable iter X.env x = pure x) : PS X (.For tg iter body [] pos) (SS X m (.for t it cb)) := by
  refine (ps_for hp hc hi hg hb hs).imp fun D σ H ⟨F, δ, E, h⟩ => ⟨F, δ, E, ?_⟩
  have h' : RzS X m F D (.ofR (evi m.g m.f it δ) fun xs => forL (execs m.g m.f cb) t xs δ) := h
  cases ei : evi m.g m.f it δ with
  | err z =>
    rw [ei] at h'
    exact RzS.err E h'
  | stuck =>
    rw [ei] at h'
    exact h'
  | ok xs =>
    rw [ei] at h'
    intro J F1 H1 x1 wk
    obtain ⟨G, Y, hw, hG, hY⟩ := wk.w
    have h2 : RzS X m F1 D (forL (execs m.g m.f cb) t xs δ) := RzS.mono (x1.fz E) h'
    refine for_it hw (fun i σ2 H2 => ∃ F2 δ2, En X m F2 H2 σ2 δ2 ∧ Fz m F1 F2 ∧ RzS X m F2 D (forL (execs m.g m.f cb) t (xs.drop i) δ2))
      ⟨F1, δ, E.ext x1, .refl, by rw [List.drop_zero]; exact h2⟩ (fun i σ2 H2 _ ⟨F2, δ2, E2, z2, _⟩ => hG H2 (z2.ff.trans E2.sub)) (fun i x σ2 H2 H3 hi2 ⟨F2, δ2, E2, z2, q⟩ y => ?_) (fun σ2 H2 ⟨F2, δ2, E2, z2, q⟩ => ?_)
    · obtain ⟨F3, d, ed, x3, rd⟩ := hY i F2 H2 x H3 hi2 z2.ff E2.sub y
      have edr : xs.drop i = d :: xs.drop (i + 1) := by
        obtain ⟨hl, e1⟩ := List.getElem?_eq_some_iff.mp ed
        rw [List.drop_eq_getElem_cons hl, e1]
      rw [edr] at q
      have z3 : Fz m F2 F3 := x3.fz E2
      have E3 := E2.ext x3
      have q' : RzS X m F2 D (match setTg t d δ2 with
        | none => .stuck
        | some δ1 => (match execs m.g m.f cb δ1 with
          | .nx δ3 => forL (execs m.g m.f cb) t (xs.drop (i + 1)) δ3
          | .ct δ3 => forL (execs m.g m.f cb) t (xs.drop (i + 1)) δ3
          | .bk δ3 => .nx δ3
          | o => o)) := q
      cases es : setTg t d δ2 with
      | none =>
        rw [es] at q'
        exact q'.elim
      | some δ1 =>
        rw [es] at q'
        dsimp only at q'
        refine gT_ok E3 hpt rd es fun σ4 E4 _ _ => ⟨F3, δ1, E4, ?_⟩
        have q2 := RzS.mono z3 q'
        cases eb : execs m.g m.f cb δ1 with
        | nx δ3 =>
          rw [eb] at q2
          exact fun σ5 F5 H5 E5 z5 => ⟨F5, δ3, E5, (z2.trans z3).trans z5, RzS.mono z5 q2⟩
        | ct δ3 =>
          rw [eb] at q2
          exact fun σ5 F5 H5 E5 z5 => ⟨F5, δ3, E5, (z2.trans z3).trans z5, RzS.mono z5 q2⟩
        | bk δ3 =>
          rw [eb] at q2
          exact q2
        | rt d =>
          rw [eb] at q2
          exact q2
        | err z =>
          rw [eb] at q2
          exact q2
        | stuck =>
          rw [eb] at q2
          exact q2
    · rw [List.drop_length] at q
      exact q σ2 F2 H2 E2 .refl
/-- the class x of errors -/
structure ExI (X : Cx) (m : Mo) (x : Str) : Prop where
  ex : ∃ C, m.C x = some C ∧ X.mg x = some (.ref C) ∧ PySem.W.keepIn X.K (.ref C) = true ∧ Raises X (.ref C) ∧ ∃ (B newId initId : String) (bmB : List Value), ∃ _ : ExcBaseFacts B newId initId bmB, PySem.W.excIn X.K C bmB newId = true
  db : (x == ("__debug__" : Str)) = false
theorem s_raise {x ms : Str} {j : Nat} {p p2 cpos pos : Pos} (hc : X.calm = true) (tk : Takes X m.W) (hx : ExI X m x) (hg : Gl X x) : PS X (.Raise (some (.Call (.Name x p) [.Constant (.str ms) j p2] [] cpos)) none pos) (SS X m (.raise x ms)) := by
  obtain ⟨⟨C, hC, gC, kC, r, B, newId, initId, bmB, Fc, q⟩, db⟩ := hx
  refine (ps_raise hc tk (pmk_own Fc q gC kC r hg db)).imp fun D σ H ⟨F, δ, E, h⟩ => ?_
  obtain ⟨C2, e2, q2⟩ := h
  rw [hC] at e2
  cases e2
  exact q2 σ H E.old
end
end Rh

set_option Elab.async false
set_option linter.all false
set_option maxRecDepth 100000
set_option maxHeartbeats 1000000
/-! t[:0:-1] of a tuple. -/
namespace Rh
open PySem PySem.Spec PyProof.Rows L2
section
variable {prog : Program} {w : World} {A : Around} {E : Value → Shared → Prop} {s : Shared}
theorem back_adjust (n : Nat) : Builtin.Slice.sliceAdjust none (some 0) (-1) (n : Int) = ((n : Int) - 1, if n = 0 then -1 else 0) := by
  unfold Builtin.Slice.sliceAdjust
  have h1 : (-1 : Int) < 0 := by omega
  simp only [h1, if_true]
  refine Prod.ext rfl ?_
  show (if (0 : Int) < 0 then max ((0 : Int) + n) (-1) else min 0 ((n : Int) - 1)) = _
  rw [if_neg (by omega)]
  split
  · rename_i h
    subst h
    rfl
  · omega
theorem back_places (n : Nat) : Builtin.Slice.slicePlaces ((n : Int) - 1) (if n = 0 then -1 else 0) (-1) = n - 1 := by
  unfold Builtin.Slice.slicePlaces
  have h1 : ¬ (-1 : Int) > 0 := by omega
  rw [if_neg h1]
  have h2 : (- -1 : Int) = 1 := rfl
  rw [h2, Int.ediv_one]
  split <;> split <;> omega
theorem fm_all {α β : Type} {f : α → Option β} {g : α → β} : ∀ l : List α, (∀ k ∈ l, f k = some (g k)) → l.filterMap f = l.map g
  | [], _ => rfl
  | a :: l, h => by
    rw [List.filterMap_cons, h a List.mem_cons_self, List.map_cons, fm_all l fun k hk => h k (List.mem_cons_of_mem _ hk)]
theorem back_pick (xs : List Value) : ((List.range (xs.length - 1)).filterMap fun (k : Nat) => xs.toArray[(((xs.length : Int) - 1) + (k : Int) * (-1)).toNat]?) = xs.tail.reverse := by
  cases xs with
  | nil => rfl
  | cons a r =>
    show (List.range (r.length + 1 - 1)).filterMap _ = r.reverse
    rw [Nat.add_sub_cancel]
    have e : ∀ k ∈ List.range r.length, (a :: r).toArray[((((a :: r).length : Int) - 1) + (k : Int) * (-1)).toNat]? = some (r.reverse.getD k a) := by
      intro k hk
      rw [List.mem_range] at hk
      have z : ((((a :: r).length : Int) - 1) + (k : Int) * (-1)).toNat = (r.length - 1 - k) + 1 := by
        rw [List.length_cons]
        omega
      rw [z]
      have q : r.length - 1 - k < r.length := by omega
      rw [List.getElem?_toArray, List.getElem?_cons_succ, List.getElem?_eq_getElem q]
      have q2 : k < r.reverse.length := by rw [List.length_reverse]; exact hk
      rw [List.getD_eq_getElem?_getD, List.getElem?_eq_getElem q2, List.getElem_reverse]
      rfl
    rw [fm_all _ e]
    apply List.ext_getElem?
    intro k
    rw [List.getElem?_map]
    by_cases hk : k < r.length
    · rw [List.getElem?_range hk]
      have q2 : k < r.reverse.length := by rw [List.length_reverse]; exact hk
      show some (r.reverse.getD k a) = _
      rw [List.getD_eq_getElem?_getD, List.getElem?_eq_getElem q2]
      rfl
    · rw [List.getElem?_eq_none (by rw [List.length_range]; omega), List.getElem?_eq_none (by rw [List.length_reverse]; omega)]
      rfl
theorem getItem_tuple_back {t sl : Addr} {items : List Value} {vl vu vs : Value} {Q : Value → Shared → Prop} (ht : IsTup s.heap t items.toArray) (hs : s.heap.IsSliceOf sl vl vu vs) (pl : IsPart vl none) (pu : IsPart vu (some 0)) (ps : IsPart vs (some (-1)))
    (h : Q (.ref s.heap.objs.size) { s with heap := s.heap.push { cls := .type "tuple", data := .seq items.tail.reverse.toArray } })
    (hsz : items.length ≤ sizeLine) : wpAny (model prog w) A (getItem (.ref t) (.ref sl)) Q E s := by
  have hsize : sizeOk (.seq items.tail.reverse.toArray) := by
    show items.tail.reverse.toArray.size ≤ sizeLine
    rw [List.size_toArray, List.length_reverse, List.length_tail]
    omega
  obtain ⟨os, hos, hcs, hds⟩ := id hs
  have hTs : s.TypeIs (.ref sl) "slice" := ⟨os, hos, hcs⟩
  have applied : ∀ {R : Int × Int × Nat → Shared → Prop}, R ((items.length : Int) - 1, -1, items.length - 1) s → wpAny (model prog w) A.in1 (Builtin.Slice.sliceApplied (.ref sl) (pure (items.toArray.size : Int))) R E s := by
    intro R hR
    unfold Builtin.Slice.sliceApplied Builtin.Slice.sliceFields
    refine wpAny_bind (wpAny_bind (wpAny_field hos hds (x := vl) rfl (wpAny_bind (wpAny_field hos hds (x := vu) rfl (wpAny_bind (wpAny_field hos hds (x := vs) rfl (wpAny_pure ?_)))))))
    refine wpAny_bind (HT.slicePart_ ps ?_)
    show wpAny _ _ (if ((-1 : Int) == 0) = true then _ else _) _ _ s
    rw [if_neg (by decide)]
    refine wpAny_bind (HT.slicePart_ pl (wpAny_bind (HT.slicePart_ pu (wpAny_bind (wpAny_pure ?_)))))
    show wpAny _ _ (match Builtin.Slice.sliceAdjust none (some 0) (-1) (items.toArray.size : Int) with | (lo, hi) => pure (lo, (-1 : Int), Builtin.Slice.slicePlaces lo hi (-1))) _ _ s
    rw [List.size_toArray, back_adjust]
    show wpAny _ _ (pure (((items.length : Int) - 1), (-1 : Int), Builtin.Slice.slicePlaces ((items.length : Int) - 1) (if items.length = 0 then -1 else 0) (-1))) _ _ s
    rw [back_places]
    exact wpAny_pure hR
  unfold getItem
  try with_reducible refine wpAny_holding ?_
  first | refine wpAny_bind (wpAny_pure ?_) | skip
  refine wpAny_bind (wpAny_sequenceKey ht.typeIs (by decide) ?_)
  refine wpAny_bind (wpAny_callSpecial?_slot (name := Str.ofString "__getitem__") ht.typeIs PyProof.Rows.slot_tuple_getitem
    (wpAny_call_entry PyProof.Rows.slot_tuple_getitem ht.typeIs entry_tuple_getitem ?_ (args_tuple_getitem _ _)))
  show wpAny _ _ (Builtin.Tuple.tupleItemsOf (.ref t) >>= _) _ _ s
  refine wpAny_bind (tupleItemsOf_ ht ?_)
  refine wpAny_bind (wpAny_typeOf hTs ?_)
  rw [if_pos (by decide)]
  refine wpAny_bind (applied ?_)
  show wpAny _ _ (if ((((items.length : Int) - 1) == 0 && (-1 : Int) == 1 && (items.length - 1) == items.toArray.size) = true) then _ else _) _ _ s
  rw [if_neg (by
    intro q
    rw [Bool.and_eq_true, Bool.and_eq_true] at q
    exact absurd q.1.2 (by decide)), back_pick]
  first
    | exact wpAny_bind (m := Builtin.Tuple.tupleExact _) (wpAny_newObj_type (wpAny_pure ⟨_, rfl, wpAny_pure h⟩) hsize)
    | exact wpAny_bind (m := Builtin.Tuple.tupleExact _) (wpAny_newObj_type (wpAny_bind (wpAny_pure (wpAny_pure ⟨_, rfl, wpAny_pure h⟩))) hsize)
    | exact wpAny_bind (wpAny_bind (m := Builtin.Tuple.tupleExact _) (wpAny_newObj_type (wpAny_pure (wpAny_pure ⟨_, rfl, wpAny_pure h⟩)) hsize))
    | exact wpAny_bind (wpAny_bind (m := Builtin.Tuple.tupleExact _) (wpAny_newObj_type (wpAny_pure ⟨_, rfl, wpAny_pure h⟩) hsize))
end
section
variable {X : Cx}
def tBack (K : PySem.W.Frag) (te : TE) : TE := fun σ H Q => te σ H fun x H1 => ∃ a xs, x = .ref a ∧ SqT K H1 a xs ∧ NewT xs.tail.reverse H1 Q
theorem Vals.tail' {xs : List V} {us : List Value} (r : Vals xs us) : Vals xs.tail us.tail := by
  cases r with
  | nil => exact .nil
  | cons _ t => exact t
theorem pe_back {e : Expr} {te : TE} {k k2 : Nat} {p1 p2 p3 p4 pos : Pos} (he : PE X e te) : PE X (.Subscript e (.Slice none (some (.Constant (.int 0) k2 p4)) (some (.UnaryOp .USub (.Constant (.int 1) k p1) p2)) p3) pos) (tBack X.K te) := by
  constructor
  intro pins s σ H Q I h
  refine Subscript_ (thn (he.run pins s σ H _ I h) fun v z1 ⟨x, H1, I1, r1, a, xs, ex, hx, q⟩ => ?_)
  subst ex
  cases r1
  have o1 : PO X (some (.Constant (.int 0) k2 p4)) (tPart (tC (.int 0))) := po_some pe_int
  have o2 : PO X (some (.UnaryOp .USub (.Constant (.int 1) k p1) p2)) (tPart (tUn (rU fun i => .int (-i)) (tC (.int 1)))) := po_some (pe_un un_neg pe_int)
  refine wpAny_Slice (thn (po_none.run pins z1 σ H1 (fun o G => o = none ∧ G = H1) I1 ⟨rfl, rfl⟩) fun vl z2 ⟨l, H2, I2, pl, el, e2⟩ => ?_)
  subst el e2
  refine thn (o1.run pins z2 σ H2 (fun o G => o = some 0 ∧ G = H2) I2 ⟨0, rfl, rfl, rfl⟩) fun vu z3 ⟨u, H3, I3, pu, eu, e3⟩ => ?_
  subst eu e3
  refine thn (o2.run pins z3 σ H3 (fun o G => o = some (-1) ∧ G = H3) I3 ⟨1, rfl, -1, rfl, rfl, rfl⟩) fun vs z4 ⟨o, H4, I4, ps, eo, e4⟩ => ?_
  subst eo e4
  have J : Inv X pins σ H4 { z4 with heap := z4.heap.push { cls := .type "slice", data := .fields #[vl, vu, vs] } } := I4.kept (t' := z4.toks) fun b ob q => Heap.get?_push_of_some _ q
  obtain ⟨its, r, ht, hz⟩ := J.tuple hx
  have hl := r.length
  show wpAny (model X.prog X.w) X.A (subscriptTail e (.Slice none (some (.Constant (.int 0) k2 p4)) (some (.UnaryOp .USub (.Constant (.int 1) k p1) p2)) p3) (.ref a) (.ref z4.heap.objs.size)) (EP X pins σ Q) X.xe { z4 with heap := z4.heap.push { cls := .type "slice", data := .fields #[vl, vu, vs] } }
  refine tail_any (ops := [.ref a, .ref z4.heap.objs.size]) ht.typeIs PyProof.Rows.slot_tuple_getitem.lookup ?_ (by with_unfolding_all rfl)
  refine getItem_tuple_back ht (Heap.IsSliceOf.new _ vl vu vs) pl pu ps ?_ (by omega)
  exact newT_here (tk := z4.toks) J (Vals.tail' r).reverse (by rw [List.length_reverse, List.length_tail]; omega) q
end
end Rh

set_option Elab.async false
set_option linter.all false
set_option maxRecDepth 100000
set_option maxHeartbeats 1000000
/-! min of things whose order is told by the heap (tuples of ints), two of them or a list of them. -/
namespace Rh
open PySem PySem.Spec PyProof.Rows L2
/-- in every heap of which G holds: «the i-th is less than the j-th» is bt i j -/
def LessIn (prog : Program) (w : World) (A : Around) (G : Heap → Prop) (P : Nat → Value → Prop) (bt : Nat → Nat → Bool) : Prop :=
  ∀ (i j : Nat) (a b : Value) (z : Shared) (Q : Value → Shared → Prop) (E : Value → Shared → Prop), G z.heap → P i a → P j b → Q (.bool (bt i j)) z → wpAny (model prog w) A (richCompare .Lt a b) Q E z
section
variable {prog : Program} {w : World} {A : Around} {R : Result → Shared → Prop} {it S : Addr} {fp wr : List Addr} {n : Nat} {P : Nat → Value → Prop} {Tn : Nat → Heap → Prop} {G : Heap → Prop} {bt : Nat → Nat → Bool}
theorem loop_word : (toString "min" ++ toString ".loop" : String) = "min.loop" := by decide
/-- the loop of min behind its first j + 1 items; the best so far lies twice in the list at S -/
theorem min_from (W : Walks prog w A.in1 it fp wr n P Tn) (C : LessIn prog w A.in1 G P bt) (hS : S ∉ fp) (keepG : ∀ h h' : Heap, G h → (∀ b o, b ∉ wr → b ≠ S → h.get? b = some o → h'.get? b = some o) → G h') :
    ∀ (k j : Nat) (z : Shared) (best : Value) (c : Nat), n - (j + 1) = k → j + 1 ≤ n → Tn (j + 1) z.heap → G z.heap → P (argBest bt j) best →
    z.heap.get? S = some { cls := .type "list", dict := none, data := .seq #[best, best] c, slots := #[] } →
    (∀ v h' tk, P (argBest bt (n - 1)) v → (∀ b o, b ∉ wr → b ≠ S → z.heap.get? b = some o → h'.get? b = some o) → R (.ok (.ret v)) { z with heap := h', toks := tk }) →
    codeAny (model prog w) A (.builtin "min.loop" ⟨[.ref it, .none, .ref S], []⟩) R z := by
  have hSw : S ∉ wr := fun y => hS (W.sub _ y)
  intro k
  induction k with
  | zero =>
    intro j z best c hk hj st gz pb sz fin
    have ej : j + 1 = n := by omega
    refine codeAny_builtin F.entry_min_loop ?_
    rw [Around.under_plainId F.plain_min_loop _]
    show wpAny _ A.in1 (seqItems? (.ref S) >>= _) _ _ z
    refine wpAny_bind (wpAny_seqItems sz rfl ?_)
    show wpAny _ A.in1 (tryCatch (pyNext (.ref it)) _ >>= _) _ _ z
    refine wpAny_bind (wpAny_tryCatch (W.done z _ _ (ej ▸ st) fun h1 tk k1 => ?_))
    have sz1 := k1 S _ hSw sz
    show wpAny _ A.in1 (updateSeq S (fun _ => #[]) >>= _) _ _ _
    refine wpAny_bind (wpAny_updateSeq sz1 rfl (wpAny_bind (wpAny_letGo (wpAny_pure ?_))))
    refine fin best _ tk (by rw [← ej]; exact pb) fun b o nw ns e => ?_
    exact (Heap.get?_update_other _ _ (Ne.symm ns)).trans (k1 b o nw e)
  | succ k ih =>
    intro j z best c hk hj st gz pb sz fin
    have lt : j + 1 < n := by omega
    refine codeAny_builtin F.entry_min_loop ?_
    rw [Around.under_plainId F.plain_min_loop _]
    show wpAny _ A.in1 (seqItems? (.ref S) >>= _) _ _ z
    refine wpAny_bind (wpAny_seqItems sz rfl ?_)
    show wpAny _ A.in1 (tryCatch (pyNext (.ref it)) _ >>= _) _ _ z
    refine wpAny_bind (wpAny_tryCatch (W.item (j + 1) z _ _ lt st fun v h1 tk pv st1 k1 => ?_))
    have sz1 := k1 S _ hSw sz
    have g1 : G h1 := keepG _ _ gz fun b o nw _ e => k1 b o nw e
    show wpAny _ A.in1 (tryCatch (holding [v, v] (richCompare .Lt v best >>= _)) _ >>= _) _ _ _
    refine wpAny_bind (wpAny_tryCatch (wpAny_holding (wpAny_bind (C (j + 1) (argBest bt j) v best _ _ _ g1 pv pb ?_))))
    refine wpAny_bind (wpAny_holding (wpAny_truthy_bool ?_))
    refine wpAny_bind (wpAny_letGo (wpAny_pure ?_))
    cases eb : bt (j + 1) (argBest bt j) with
    | true =>
      simp only [if_true]
      refine wpAny_bind (wpAny_updateSeq sz1 rfl (wpAny_bind (wpAny_letGo ?_)))
      rw [loop_word]
      have other : ∀ b, b ≠ S → (h1.update S (Obj.mapSeq fun _ => #[v, v])).get? b = h1.get? b := fun b hb => Heap.get?_update_other _ _ (Ne.symm hb)
      refine wpAny_pure ⟨plainId_quiet F.plain_min_loop _, ih (j + 1) _ v _ (by omega) lt (W.frame _ _ _ st1 fun b hbf o e => ?_) (keepG _ _ g1 fun b o _ ns e => ?_) (by simp only [argBest, eb, if_true]; exact pv) (Heap.get?_update_self _ sz1 rfl) fun u h2 tk2 pu k2 => ?_⟩
      · exact (other b fun y => hS (by rw [← y]; exact hbf)).trans e
      · exact (other b ns).trans e
      · exact fin u h2 tk2 pu fun b o nw ns e => k2 b o nw ns ((other b ns).trans (k1 b o nw e))
    | false =>
      simp only [Bool.false_eq_true, if_false]
      refine wpAny_bind (wpAny_letGo ?_)
      rw [loop_word]
      refine wpAny_pure ⟨plainId_quiet F.plain_min_loop _, ih (j + 1) _ best c (by omega) lt st1 g1 (by simp only [argBest, eb, Bool.false_eq_true, if_false]; exact pb) sz1 fun u h2 tk2 pu k2 => ?_⟩
      exact fin u h2 tk2 pu fun b o nw ns e => k2 b o nw ns (k1 b o nw e)
/-- from its first item on -/
theorem min_start (W : Walks prog w A.in1 it fp wr n P Tn) (C : LessIn prog w A.in1 G P bt) (hS : S ∉ fp) (keepG : ∀ h h' : Heap, G h → (∀ b o, b ∉ wr → b ≠ S → h.get? b = some o → h'.get? b = some o) → G h') (hn : 0 < n) {z : Shared} {c : Nat} (st : Tn 0 z.heap) (gz : G z.heap)
    (sz : z.heap.get? S = some { cls := .type "list", dict := none, data := .seq #[] c, slots := #[] })
    (fin : ∀ v h' tk, P (argBest bt (n - 1)) v → (∀ b o, b ∉ wr → b ≠ S → z.heap.get? b = some o → h'.get? b = some o) → R (.ok (.ret v)) { z with heap := h', toks := tk }) :
    codeAny (model prog w) A (.builtin "min.loop" ⟨[.ref it, .none, .ref S], []⟩) R z := by
  have hSw : S ∉ wr := fun y => hS (W.sub _ y)
  refine codeAny_builtin F.entry_min_loop ?_
  rw [Around.under_plainId F.plain_min_loop _]
  show wpAny _ A.in1 (seqItems? (.ref S) >>= _) _ _ z
  refine wpAny_bind (wpAny_seqItems sz rfl ?_)
  show wpAny _ A.in1 (tryCatch (pyNext (.ref it)) _ >>= _) _ _ z
  refine wpAny_bind (wpAny_tryCatch (W.item 0 z _ _ hn st fun v h1 tk pv st1 k1 => ?_))
  have sz1 := k1 S _ hSw sz
  have g1 : G h1 := keepG _ _ gz fun b o nw _ e => k1 b o nw e
  have other : ∀ b, b ≠ S → (h1.update S (Obj.mapSeq fun _ => #[v, v])).get? b = h1.get? b := fun b hb => Heap.get?_update_other _ _ (Ne.symm hb)
  show wpAny _ A.in1 (updateSeq S (fun _ => #[v, v]) >>= _) _ _ _
  refine wpAny_bind (wpAny_updateSeq sz1 rfl ?_)
  rw [loop_word]
  refine wpAny_pure ⟨plainId_quiet F.plain_min_loop _, min_from W C hS keepG _ 0 _ v _ rfl hn (W.frame _ _ _ st1 fun b hbf o e => ?_) (keepG _ _ g1 fun b o _ ns e => (other b ns).trans e) pv (Heap.get?_update_self _ sz1 rfl) fun u h2 tk2 pu k2 => ?_⟩
  · exact (other b fun y => hS (by rw [← y]; exact hbf)).trans e
  · exact fin u h2 tk2 pu fun b o nw ns e => k2 b o nw ns ((other b ns).trans (k1 b o nw e))
end
section
variable {prog : Program} {w : World} {A : Around} {E : Value → Shared → Prop} {s : Shared}
/-- what min asks of the iterator that it walks -/
def MinIt (prog : Program) (w : World) (A : Around) (Q : Value → Shared → Prop) (x : Value) (z : Shared) : Prop :=
  ∃ (it : Addr) (fp wr : List Addr) (n : Nat) (P : Nat → Value → Prop) (Tn : Nat → Heap → Prop) (bt : Nat → Nat → Bool), x = .ref it ∧ Walks prog w A.in1 it fp wr n P Tn ∧ Tn 0 z.heap ∧ (∀ b ∈ fp, b < z.heap.objs.size) ∧ 0 < n ∧
    LessIn prog w A.in1 (fun h => ∀ b o, b ∉ wr → z.heap.get? b = some o → h.get? b = some o) P bt ∧
    ∀ v h' tk, P (argBest bt (n - 1)) v → (∀ b o, b ∉ wr → z.heap.get? b = some o → h'.get? b = some o) → Q v { z with heap := h', toks := tk }
/-- the loop behind the making of min's own list -/
theorem min_run {x : Value} {z : Shared} {Q : Value → Shared → Prop} (h : MinIt prog w A Q x z) :
    codeAny (model prog w) A (.builtin "min.loop" ⟨[x, .none, .ref z.heap.objs.size], []⟩) (fun r z' => match r with | .ok (.ret v) => Q v z' | .ok _ => False | .error e => E e z')
      { z with heap := z.heap.push { cls := .type "list", data := .seq #[] } } := by
  obtain ⟨it, fp, wr, n, P, Tn, bt, rfl, W, st, small, hn, C, fin⟩ := h
  have nS : z.heap.objs.size ∉ fp := fun y => Nat.lt_irrefl _ (small _ y)
  have gz : ∀ b o, b ∉ wr → z.heap.get? b = some o → (z.heap.push { cls := .type "list", data := .seq #[] }).get? b = some o := fun b o _ e => Heap.get?_push_of_some _ e
  refine min_start W C nS (fun h1 h2 g k b o nw e => k b o nw (Nat.ne_of_lt (Heap.lt_size e)) (g b o nw e)) hn (W.frame _ _ _ st fun b _ o e => Heap.get?_push_of_some _ e) gz (Heap.get?_push_size _ rfl) fun v h' tk pv k => ?_
  exact fin v h' tk pv fun b o nw e => k b o nw (Nat.ne_of_lt (Heap.lt_size e)) (gz b o nw e)
theorem min_one {x : Value} {Q : Value → Shared → Prop} (h : wpAny (model prog w) A.in1 (pyIter x) (MinIt prog w A Q) E s) : wpAny (model prog w) A (call (.builtin "min") [x]) Q E s := by
  refine call_function_tree F.kind_min F.plain_min F.entry_min (F.args_min1 _) ?_
  show wpAny _ A.in1 (Builtin.Builtins.bindParams "min" ["key", "default"] 0 ⟨[], []⟩ >>= _) _ _ s
  refine wpAny_bind (wpAny_of_eq (show Builtin.Builtins.bindParams "min" ["key", "default"] 0 ⟨[], []⟩ = pure [none, none] from rfl) (wpAny_bind (wpAny_pure ?_)))
  refine wpAny_bind (wpAny_mono h (fun x1 z hz => wpAny_bind (wpAny_newObj_type ?_)) fun _ _ e => e)
  rw [loop_word]
  exact wpAny_pure ⟨plainId_quiet F.plain_min_loop _, min_run hz⟩
theorem min_pair {a b : Value} {Q : Value → Shared → Prop} (h : wpAny (model prog w) A.in1 (pyIter (.ref s.heap.objs.size)) (MinIt prog w A Q) E { s with heap := s.heap.push { cls := .type "tuple", data := .seq #[a, b] } }) :
    wpAny (model prog w) A (call (.builtin "min") [a, b]) Q E s := by
  refine call_function_tree F.kind_min F.plain_min F.entry_min (F.args_min2 _ _) ?_
  show wpAny _ A.in1 (Builtin.Builtins.bindParams "min" ["key", "default"] 0 ⟨[], []⟩ >>= _) _ _ s
  refine wpAny_bind (wpAny_of_eq (show Builtin.Builtins.bindParams "min" ["key", "default"] 0 ⟨[], []⟩ = pure [none, none] from rfl) ?_)
  show wpAny _ A.in1 (newTuple [a, b] >>= _) _ _ s
  refine wpAny_bind (wpAny_newObj_type ?_)
  refine wpAny_bind (wpAny_mono h (fun x1 z hz => wpAny_bind (wpAny_newObj_type ?_)) fun _ _ e => e)
  rw [loop_word]
  exact wpAny_pure ⟨plainId_quiet F.plain_min_loop _, min_run hz⟩
end
/-! ### over the layer -/
section
variable {X : Cx} {pins : List (Addr × Obj)} {σ : L2.St} {H : Hp} {s : Shared}
/-- what two tuples of ints are to one another, in any heap that keeps theirs -/
theorem lt_in {A : Around} {a b : Addr} {xs ys : List Value} {ns ms : List Int} {h : Heap} (hu : A.units < cLine) (ha : IsTup h a xs.toArray) (hb : IsTup h b ys.toArray) (ia : IntsAre xs ns) (ib : IntsAre ys ms) (z : Shared) (k : z.heap = h)
    (Q : Value → Shared → Prop) (E : Value → Shared → Prop) (q : Q (.bool (HT.lexLt ns ms)) z) : wpAny (model X.prog X.w) A (richCompare .Lt (.ref a) (.ref b)) Q E z := by
  subst k
  exact HT.lt_tupInts ha hb (by simpa using ia) (by simpa using ib) hu q
end
end Rh

set_option Elab.async false
set_option linter.all false
set_option maxRecDepth 100000
set_option maxHeartbeats 1000000
/-! More expressions: constants of the module, isinstance, count, backwards, ranges as values, displays. -/
namespace Rh
open PySem PySem.Spec PyProof.Rows L2
section
variable {X : Cx} {m : Mo} {F H F' H' : Hp} {σ : L2.St} {δ : Ev}
/-! ### constants of the module -/
structure GcI (X : Cx) (m : Mo) (x : Str) : Prop where
  ex : ∃ d v u, m.g x = some d ∧ X.mg x = some u ∧ RelV v u ∧ ∀ F, RP X F v d
  db : (x == ("__debug__" : Str)) = false
theorem e_glob {x : Str} {pos : Pos} (hg : Gl X x) (hx : GcI X m x) : PE X (.Name x pos) (T X m (.glob x)) := by
  obtain ⟨⟨d, v, u, e1, e2, r, rp⟩, db⟩ := hx
  refine (pe_glob hg e2 r db).imp fun σ H Q ⟨F, δ, E, h⟩ => ?_
  have h' : Rz X m σ F H (.ofO (m.g x)) Q := h
  rw [e1] at h'
  exact h' v F H (.refl E.sub) (rp F)
structure GtI (X : Cx) (m : Mo) (x : Str) : Prop where
  ex : ∃ ys a, m.g x = some (.tuple ys) ∧ X.mg x = some (.ref a) ∧ ∀ H, Dp X.K H (.ref a) (.tuple ys)
  db : (x == ("__debug__" : Str)) = false
def rIn (X : Cx) (no : Bool) : R2 := fun x y H Q => ∃ F dx ys k, Same F H ∧ RP X F x dx ∧ Dp X.K H y (.tuple ys) ∧ inD dx ys = some k ∧ Q (.bl (if no then !k else k)) H
theorem in_ok (no : Bool) (hu : X.A.units + 100 < cLine) : OpR X (compareOp (if no then .NotIn else .In)) (rIn X no) := by
  intro pins s σ H x y v u Q I rx ry ⟨F, dx, ys, k, sF, hx, hy, e, q⟩
  obtain ⟨s1, s2, z⟩ := inD_some e
  obtain ⟨as, r1⟩ := Dp.reads I dx x v (hx.dp sF (shaped_lay s1)) rx
  obtain ⟨bs, r2⟩ := Dp.reads I (.tuple ys) y u hy ry
  subst z
  cases no with
  | false => exact SeqAt.in_tuple_reads r2 r1 (shaped_items s2) (shaped_lay s1) (room_in_shaped s1 (by omega)) ⟨.bl _, H, I, rfl, q⟩
  | true => exact SeqAt.notIn_tuple_reads r2 r1 (shaped_items s2) (shaped_lay s1) (room_in_shaped s1 (by omega)) ⟨.bl _, H, I, rfl, q⟩
theorem inG_read {no : Bool} {x : Str} {a : DE} {Q : VK} {ys : List PyData} {b : Addr} (e1 : m.g x = some (.tuple ys)) (rp : ∀ H, Dp X.K H (.ref b) (.tuple ys)) (E : En X m F H σ δ) (h : Rz X m σ F H (ev m.g m.f (.inG no a x) δ) Q) :
    T X m a σ H fun y H1 => tC (.ref b) σ H1 fun z H2 => rIn X no y z H2 Q := by
  have h' : Rz X m σ F H ((ev m.g m.f a δ).bind fun y => (match m.g x with
    | some (.tuple ys) => .ofO ((inD y ys).map fun k => .bool (if no then !k else k))
    | _ => .stuck)) Q := h
  rw [e1] at h'
  refine T.one E h' fun d v F1 H1 x1 E1 r _ hq => ?_
  obtain ⟨d2, e2, q⟩ := ofO_some hq
  obtain ⟨k, ek, rfl⟩ := Option.map_eq_some_iff.mp e2
  exact ⟨F1, d, ys, k, E1.sub, r, rp H1, ek, q _ F1 H1 (.refl E1.sub) (.bl _)⟩
theorem e_inG {no : Bool} {op : CmpOp} {x : Str} {l : Expr} {a : DE} {p pos : Pos} (ho : op = if no then .NotIn else .In) (hu : X.A.units + 100 < cLine) (h1 : PE X l (T X m a)) (hg : Gl X x) (hx : GtI X m x) (hm : behindInMarks op (.Name x p) = false) : PE X (.Compare l [op] [.Name x p] pos) (T X m (.inG no a x)) := by
  obtain ⟨⟨ys, b, e1, e2, rp⟩, db⟩ := hx
  subst ho
  exact (pe_cmpR (in_ok no hu) h1 (pe_glob (v := .ref b) hg e2 rfl db) hm).imp fun σ H Q ⟨F, δ, E, h⟩ => inG_read e1 rp E h

/-! ### isinstance -/
def tyL : List String := ["int", "bool", "str", "list", "tuple"]
def tyN : PyData → String
  | .none => "NoneType"
  | .bool _ => "bool"
  | .int _ => "int"
  | .str _ => "str"
  | .list _ => "list"
  | .tuple _ => "tuple"
  | .dict _ => "dict"
theorem kit_tab : ∀ T ∈ tyL, ∀ n ∈ ["NoneType", "int", "bool", "str", "list", "tuple"], kitB n T = some (n == T || (n == "bool" && T == "int")) := by decide +kernel
theorem isi_tab : ∀ T ∈ tyL, ((isiD T .none = some ("NoneType" == T || ("NoneType" == "bool" && T == "int"))) ∧ (∀ b, isiD T (.bool b) = some ("bool" == T || ("bool" == "bool" && T == "int"))) ∧ (∀ b, isiD T (.int b) = some ("int" == T || ("int" == "bool" && T == "int"))) ∧
    (∀ b, isiD T (.str b) = some ("str" == T || ("str" == "bool" && T == "int"))) ∧ (∀ b, isiD T (.list b) = some ("list" == T || ("list" == "bool" && T == "int"))) ∧ (∀ b, isiD T (.tuple b) = some ("tuple" == T || ("tuple" == "bool" && T == "int")))) := by
  intro T hT
  simp only [tyL, List.mem_cons, List.not_mem_nil, or_false] at hT
  rcases hT with h | h | h | h | h <;> subst h <;> refine ⟨?_, fun _ => ?_, fun _ => ?_, fun _ => ?_, fun _ => ?_, fun _ => ?_⟩ <;> simp [isiD]
theorem ty_of {v : V} {d : PyData} {T : String} {k : Bool} (hT : T ∈ tyL) (s : Same F H) (r : RP X F v d) (e : isiD T d = some k) : ∃ t, TyX X.K H v t ∧ PySem.W.kitOne X.K t (.type T) = some k := by
  obtain ⟨t1, t2, t3, t4, t5, t6⟩ := isi_tab T hT
  cases r with
  | non =>
    refine ⟨_, .base .non, kit_ty ?_⟩
    rw [← e, t1]
    exact kit_tab T hT _ (by simp)
  | bl b =>
    refine ⟨_, .base (.bl b), kit_ty ?_⟩
    rw [← e, t2]
    exact kit_tab T hT _ (by simp)
  | int i =>
    refine ⟨_, .base (.int i), kit_ty ?_⟩
    rw [← e, t3]
    exact kit_tab T hT _ (by simp)
  | str x =>
    refine ⟨_, .base (.str x), kit_ty ?_⟩
    rw [← e, t4]
    exact kit_tab T hT _ (by simp)
  | @lst a xs ds h r =>
    refine ⟨_, .base (.lst (s _ _ h)), kit_ty ?_⟩
    rw [← e, t5]
    exact kit_tab T hT _ (by simp)
  | @tup a xs ds h r =>
    obtain ⟨o, _, h⟩ := h
    refine ⟨_, .fTuple (s _ _ h), kit_ty ?_⟩
    rw [← e, t6]
    exact kit_tab T hT _ (by simp)
  | dic _ _ => cases e
  | scr _ => cases e
theorem e_isi {x tn : Str} {T' : String} {e : Expr} {c : DE} {p p2 pos : Pos} (hT : T' ∈ tyL) (hx : x = "isinstance") (hg : Gl X "isinstance") (hm : X.mg "isinstance" = none) (hgT : Gl X tn) (hmT : X.mg tn = none) (hv : bootBuiltins tn = some (.type T')) (hn : tn ≠ "__name__") (hd : (tn == ("__debug__" : Str)) = false) (h1 : PE X e (T X m c))
    (hs : starEach [e, .Name tn p2] X.env = (false, eval e X.env) :: starEach [.Name tn p2] X.env) (hs2 : starEach [.Name tn p2] X.env = [(false, eval (.Name tn p2) X.env)]) (hpl : (backTo pos (starEach [.Name tn p2] X.env)).any (·.1) = false) : PE X (.Call (.Name x p) [e, .Name tn p2] [] pos) (T X m (.isi c T')) := by
  subst hx
  have ha : PA X [e, .Name tn p2] _ := pa_cons h1 (pa_cons (pe_bltn (v := .ty T') hgT hmT hv rfl hn hd) pa_nil hs2) hs
  refine (pe_callB call_isi hg hm (by decide) ha (by decide) (by decide) hs hpl).imp fun σ H Q ⟨F, δ, E, h⟩ => ?_
  refine T.one E h fun d v F1 H1 x1 E1 r _ hq => ?_
  obtain ⟨d2, e2, q⟩ := ofO_some hq
  obtain ⟨k, ek, rfl⟩ := Option.map_eq_some_iff.mp e2
  obtain ⟨t, t1, t2⟩ := ty_of hT E1.sub r ek
  exact ⟨v, .ty T', t, .type T', k, rfl, .ty T', t1, t2, q _ F1 H1 (.refl E1.sub) (.bl _)⟩

/-! ### count, backwards -/
theorem e_cnt {o e : Expr} {a b : DE} {apos cpos : Pos} (ho : PE X o (T X m a)) (he : PE X e (T X m b)) (hbase : attributeBase o "count" X.env (eval o X.env) = eval o X.env)
    (hfew : ((backTo cpos (starEach [e] X.env)).all (fun x => !x.1) && (backToKw cpos (keywordEach [] X.env)).all (fun x => x.1.isSome)
      && decide ([e].length + ([] : List Keyword).length + (if ([] : List Keyword).isEmpty then 0 else 1) < 30)) = true)
    (hline : (apos.endLine == cpos.line) = true) (hs : starEach [e] X.env = (false, eval e X.env) :: starEach [] X.env) : PE X (.Call (.Attribute o "count" apos) [e] [] cpos) (T X m (.cnt a b)) := by
  refine (pe_cnt ho he hbase hfew hline hs).imp fun σ H Q ⟨F, δ, E, h⟩ => ?_
  refine T.one E h fun da va F1 H1 x1 E1 ra _ hq => ?_
  cases ra with
  | @tup p vs ds hp rp =>
    refine ⟨p, vs, rfl, hp.mono E1.sub, ?_⟩
    have hq' : Rz X m σ F1 H1 ((ev m.g m.f b δ).bind fun y => .ofO (cntD (.tuple ds) y)) Q := hq
    refine T.one E1 hq' fun db vb F2 H2 x2 E2 rb _ hq2 => ?_
    obtain ⟨d, e2, q⟩ := ofO_some hq2
    unfold cntD at e2
    split at e2
    · rename_i h0 _
      cases h0
      obtain ⟨ns, en, rfl⟩ := Option.map_eq_some_iff.mp e2
      cases rb
      have z := rp.ints en
      subst z
      exact ⟨ns, _, rfl, (hp.mono (x2.ff.trans E2.sub)).sq, q _ F2 H2 (.refl E2.sub) (.int _)⟩
    · cases e2
  | _ => exact (show False from hq).elim
theorem e_tl0 {e : Expr} {a : DE} {k k2 : Nat} {p1 p2 p3 p4 pos : Pos} (he : PE X e (T X m a)) : PE X (.Subscript e (.Slice none (some (.Constant (.int 0) k2 p4)) (some (.UnaryOp .USub (.Constant (.int 1) k p1) p2)) p3) pos) (T X m (.tl0 a)) := by
  refine (pe_back he).imp fun σ H Q ⟨F, δ, E, h⟩ => ?_
  refine T.one E h fun d v F1 H1 x1 E1 r _ hq => ?_
  cases r with
  | @tup p vs ds hp rp => exact ⟨p, vs, rfl, (hp.mono E1.sub).sq, fun l o od nl => hq _ _ _ (.alloc E1.sub nl) (.tup (.new od) ((RpA.reverse (by rw [← List.drop_one, ← List.drop_one]; exact rp.drop 1)).mono (same_upd (E1.sub.free nl))))⟩
  | _ => exact (show False from hq).elim
theorem e_rev {e : Expr} {a : DE} {k : Nat} {p1 p2 p3 pos : Pos} (he : PE X e (T X m a)) : PE X (.Subscript e (.Slice none none (some (.UnaryOp .USub (.Constant (.int 1) k p1) p2)) p3) pos) (T X m (.rev a)) := by
  refine (pe_revL he).imp fun σ H Q ⟨F, δ, E, h⟩ => ?_
  refine T.one E h fun d v F1 H1 x1 E1 r _ hq => ?_
  cases r with
  | @lst p vs ds hp rp => exact ⟨p, vs, rfl, SqL.of (E1.sub _ _ hp), fun l nl => hq _ (upd F1 l (.lst vs.reverse)) _ (.alloc E1.sub nl) (.lst upd_same (rp.reverse.mono (same_upd (E1.sub.free nl))))⟩
  | _ => exact (show False from hq).elim

/-! ### ranges as values -/
theorem RpA.range (i j : Int) : RpA X.prog X.w X.K F (rgV i j) (rangeD i j) := by
  unfold rgV rangeD
  generalize List.range (j - i).toNat = l
  induction l with
  | nil => exact .nil
  | cons a l ih => exact .cons (.int _) ih
theorem rg_ok {n : Int} (h : small n = true) : RgOk 0 n := by
  have h2 : -1000000 ≤ n ∧ n ≤ 1000000 := of_decide_eq_true h
  refine ⟨by omega, by omega, by omega, by omega, by omega⟩
theorem rg_read {a : DE} {Q : VK} {k : List PyData → PyData} {R : Int → Int → Hp → Prop} (E : En X m F H σ δ) (h : Rz X m σ F H ((ev m.g m.f a δ).bind fun x => (match x with
    | .int n => if small n then .ok (k (rangeD 0 n)) else .stuck
    | _ => .stuck)) Q) (hk : ∀ n F1 H1, En X m F1 H1 σ δ → RgOk 0 n → (∀ v F2 H2, Ext F1 H1 F2 H2 → RP X F2 v (k (rangeD 0 n)) → Q v H2) → R 0 n H1) : tRg1 (T X m a) σ H R := by
  refine T.one E h fun d v F1 H1 x1 E1 r _ hq => ?_
  cases r with
  | int n =>
    have hq' : Rz X m σ F1 H1 (if small n then .ok (k (rangeD 0 n)) else .stuck) Q := hq
    by_cases hs : small n = true
    · rw [if_pos hs] at hq'
      exact ⟨n, rfl, hk n F1 H1 E1 (rg_ok hs) hq'⟩
    · rw [if_neg hs] at hq'
      exact hq'.elim
  | _ => exact (show False from hq).elim
theorem e_tupRg {e : Expr} {a : DE} {p p2 pos pos2 : Pos} (hc : X.calm = true) (hg : Gl X "tuple") (hm : X.mg "tuple" = none) (hg2 : Gl X "range") (hm2 : X.mg "range" = none) (h1 : PE X e (T X m a)) (na : starEach [e] X.env = (false, eval e X.env) :: starEach [] X.env)
    (na2 : starEach [.Call (.Name "range" p2) [e] [] pos2] X.env = (false, eval (.Call (.Name "range" p2) [e] [] pos2) X.env) :: starEach [] X.env) : PE X (.Call (.Name "tuple" p) [.Call (.Name "range" p2) [e] [] pos2] [] pos) (T X m (.tupRg a)) := by
  refine (pe_tupRgF hc hg hm (prg_1 hg2 hm2 h1 na) na2).imp fun σ H Q ⟨F, δ, E, h⟩ => ?_
  exact rg_read (k := .tuple) E h fun n F1 H1 E1 ok q => ⟨ok, fun l o od nl => q _ _ _ (.alloc E1.sub nl) (.tup (.new od) (RpA.range 0 n))⟩
theorem e_lstRg {e : Expr} {a : DE} {p p2 pos pos2 : Pos} (hc : X.calm = true) (hg : Gl X "list") (hm : X.mg "list" = none) (hg2 : Gl X "range") (hm2 : X.mg "range" = none) (h1 : PE X e (T X m a)) (na : starEach [e] X.env = (false, eval e X.env) :: starEach [] X.env)
    (na2 : starEach [.Call (.Name "range" p2) [e] [] pos2] X.env = (false, eval (.Call (.Name "range" p2) [e] [] pos2) X.env) :: starEach [] X.env) : PE X (.Call (.Name "list" p) [.Call (.Name "range" p2) [e] [] pos2] [] pos) (T X m (.lstRg a)) := by
  refine (pe_listRg hc hg hm (prg_1 hg2 hm2 h1 na) na2).imp fun σ H Q ⟨F, δ, E, h⟩ => ?_
  exact rg_read (k := .list) E h fun n F1 H1 E1 ok q => ⟨ok, fun l nl => q _ (upd F1 l (.lst (rgV 0 n))) _ (.alloc E1.sub nl) (.lst upd_same (RpA.range 0 n))⟩
end
end Rh

set_option Elab.async false
set_option linter.all false
set_option maxRecDepth 100000
set_option maxHeartbeats 1000000
/-! A display of a dict with texts as keys, read at once; own lists read; min and max of two. -/
namespace Rh
open PySem PySem.Spec PyProof.Rows L2
section
variable {X : Cx} {m : Mo} {F H F' H' : Hp} {σ : L2.St} {δ : Ev}
def kz : List Str → List V → List (L2.Key × V)
  | k :: ks, v :: vs => (.inr k, v) :: kz ks vs
  | _, _ => []
def dTr (X : Wd) (m : Mo) : List Str → DEs → List (TE × TE)
  | k :: ks, .cons c cs => (tC (.str k), T X m c) :: dTr X m ks cs
  | _, _ => []
def dlen : DEs → Nat
  | .nil => 0
  | .cons _ cs => dlen cs + 1
theorem kz_len : ∀ (ks : List Str) (vs : List V), (kz ks vs).length ≤ ks.length
  | [], _ => by simp [kz]
  | k :: ks, [] => by simp [kz]
  | k :: ks, v :: vs => by
    have := kz_len ks vs
    simp [kz]
    omega
theorem T.mono {c : DE} {Q Q' : VK} (i : ∀ v H, Q v H → Q' v H) : T X m c σ H Q → T X m c σ H Q' := by
  rintro ⟨F, δ, E, h⟩
  refine ⟨F, δ, E, ?_⟩
  cases e : ev m.g m.f c δ with
  | ok d =>
    rw [e] at h
    exact fun v F1 H1 x r => i _ _ (h v F1 H1 x r)
  | err z =>
    rw [e] at h
    exact h
  | stuck =>
    rw [e] at h
    exact h
theorem tPairs_mono : ∀ (ks : List Str) (cs : DEs) (H : Hp) (P P' : List (V × V) → Hp → Prop), (∀ ps H, P ps H → P' ps H) → tPairs (dTr X m ks cs) σ H P → tPairs (dTr X m ks cs) σ H P'
  | [], _, H, P, P', i, q => i _ _ q
  | _ :: _, .nil, H, P, P', i, q => i _ _ q
  | k :: ks, .cons c cs, H, P, P', i, q => by
    have q' : T X m c σ H _ := q
    show T X m c σ H _
    exact T.mono (fun v H1 q1 => tPairs_mono ks cs H1 _ _ (fun ps H2 q2 => i _ _ q2) q1) q'
theorem pairs_read : ∀ (ks : List Str) (cs : DEs) (F H : Hp) (R : List V → Hp → Prop), ks.length = dlen cs → En X m F H σ δ → RzA X m σ F H (evs m.g m.f cs δ) R →
    tPairs (dTr X m ks cs) σ H fun ps H2 => ∃ vs, ps = (kz ks vs).map (fun kv => (kV kv.1, kv.2)) ∧ R vs H2
  | [], .nil, F, H, R, _, E, h => ⟨[], rfl, h [] F H (.refl E.sub) .nil⟩
  | [], .cons _ _, _, _, _, hl, _, _ => by cases hl
  | _ :: _, .nil, _, _, _, hl, _, _ => by cases hl
  | k :: ks, .cons c cs, F, H, R, hl, E, h => by
    show T X m c σ H _
    have h' : RzA X m σ F H ((ev m.g m.f c δ).bind fun x => (evs m.g m.f cs δ).bind fun xs => .ok (x :: xs)) R := h
    refine ⟨F, δ, E, ?_⟩
    cases e1 : ev m.g m.f c δ with
    | err z =>
      rw [e1] at h'
      exact h'
    | stuck =>
      rw [e1] at h'
      exact h'
    | ok d =>
      rw [e1] at h'
      intro v F1 H1 x r
      have h2 : RzA X m σ F H ((evs m.g m.f cs δ).bind fun xs => .ok (d :: xs)) R := h'
      have h3 : RzA X m σ F1 H1 (evs m.g m.f cs δ) fun vs H2 => R (v :: vs) H2 := by
        cases e2 : evs m.g m.f cs δ with
        | err z =>
          rw [e2] at h2
          exact err_on x.hh h2
        | stuck =>
          rw [e2] at h2
          exact h2
        | ok ds =>
          rw [e2] at h2
          exact fun vs F2 H2 x2 r2 => h2 (v :: vs) F2 H2 (x.trans x2) (.cons (r.mono x2.ff) r2)
      have ih := pairs_read ks cs F1 H1 _ (Nat.succ.inj hl) (E.ext x) h3
      exact tPairs_mono ks cs _ _ _ (fun ps H2 q => by
        obtain ⟨vs, e, q⟩ := q
        exact ⟨v :: vs, by rw [e]; rfl, q⟩) ih
theorem merge_out : ∀ (ks : List Str) (vs : List V) (acc : List (L2.Key × V)) (x : Str), x ∉ ks → valV (mergeK acc (kz ks vs)) (.inr x) = valV acc (.inr x)
  | [], _, _, _, _ => rfl
  | _ :: _, [], _, _, _ => rfl
  | k :: ks, v :: vs, acc, x, h => by
    rw [List.mem_cons, not_or] at h
    show valV (mergeK (putK acc (.inr k) v) (kz ks vs)) (.inr x) = _
    rw [merge_out ks vs _ x h.2, valV_put, if_neg]
    intro e
    injection e with e
    exact h.1 e
theorem merge_in {P : Program} {w : World} {K : PySem.W.Frag} : ∀ (ks : List Str) (vs : List V) (ds : List PyData) (acc : List (L2.Key × V)) (x : Str) (d : PyData), ks.Nodup → RpA P w K F vs ds → (ks.zip ds).lookup x = some d → ∃ v, valV (mergeK acc (kz ks vs)) (.inr x) = some v ∧ Rp P w K F v d
  | [], _, _, _, _, _, _, _, e => by cases e
  | _ :: _, _, _, _, _, _, _, .nil, e => by cases e
  | k :: ks, _, _, acc, x, d, hn, .cons (v := v) (vs := vs) (d := d1) (ds := ds) r rr, e => by
    rw [List.nodup_cons] at hn
    show ∃ v', valV (mergeK (putK acc (.inr k) v) (kz ks vs)) (.inr x) = some v' ∧ _
    rw [List.zip_cons_cons, List.lookup_cons] at e
    by_cases hk : x = k
    · subst hk
      rw [show (x == x) = true from beq_self_eq_true x] at e
      cases e
      rw [merge_out ks vs _ x hn.1, valV_put, if_pos rfl]
      exact ⟨v, rfl, r⟩
    · rw [show (x == k) = false from beq_eq_false_iff_ne.mpr hk] at e
      exact merge_in ks vs ds _ x d hn.2 rr e
theorem e_disp {keys : List (Option Expr)} {values : List Expr} {i : Expr} {ks : List Str} {vs : DEs} {e : DE} {pos p2 : Pos} (hu : X.A.units + 100 < cLine) (hp : PPs X p2 keys values (dTr X m ks vs)) (hall : keys.all (·.isSome) = true) (hl : keys.length = values.length) (h0 : keys ≠ [])
    (h15 : keys.length ≤ 15) (hk15 : ks.length ≤ 15) (hkl : ks.length = dlen vs) (hi : PE X i (T X m e)) (hs : NoSl i) : PE X (.Subscript (.Dict keys values p2) i pos) (T X m (.disp ks vs e)) := by
  refine (pe_dget (by omega) (pe_disp hp hall hl h0 h15) hi hs).imp fun σ H Q ⟨F, δ, E, h⟩ => ?_
  intro p np
  have nF : F p = none := E.sub.free np
  have x0 : Ext F H F (upd H p (.dK [])) := .heap E.sub np
  have h' : Rz X m σ F H ((evs m.g m.f vs δ).bind fun ds => (ev m.g m.f e δ).bind fun k => (match k with
    | .str x => if ks.length = ds.length ∧ ks.Nodup then .ofO ((ks.zip ds).lookup x) else .stuck
    | _ => .stuck)) Q := h
  have h1 : RzA X m σ F (upd H p (.dK [])) (evs m.g m.f vs δ) fun us H2 => H2 p = some (.dK []) ∧ T X m e σ (upd H2 p (.dK (mergeK [] (kz ks us)))) fun y H3 => ∃ a v, V.ref p = .ref a ∧ DGet H3 a y (some v) ∧ Q v H3 := by
    cases ee : evs m.g m.f vs δ with
    | err z =>
      rw [ee] at h'
      exact err_on x0.hh h'
    | stuck =>
      rw [ee] at h'
      exact h'
    | ok ds =>
      rw [ee] at h'
      intro us F2 H2 x2 r2
      have hp2 : H2 p = some (.dK []) := x2.hh _ _ upd_same
      have n2 : F2 p = none := x2.free nF upd_same
      have x3 : Ext F H F2 (upd H2 p (.dK (mergeK [] (kz ks us)))) := (x0.trans x2).updO np n2
      refine ⟨hp2, ?_⟩
      have E3 := E.ext x3
      refine T.one E3 (Rz.on x3 h') fun dk vk F4 H4 x4 E4 rk _ hq => ?_
      cases rk with
      | str x =>
        have hq' : Rz X m σ F4 H4 (if ks.length = ds.length ∧ ks.Nodup then .ofO ((ks.zip ds).lookup x) else .stuck) Q := hq
        by_cases hn : ks.length = ds.length ∧ ks.Nodup
        · rw [if_pos hn] at hq'
          obtain ⟨d, ed, q⟩ := ofO_some hq'
          obtain ⟨v, ev, rv⟩ := merge_in (acc := []) ks us ds x d hn.2 r2 ed
          refine ⟨p, v, rfl, ?_, q v F4 H4 (.refl E4.sub) (rv.mono x4.ff)⟩
          rw [← ev]
          exact .k (k := .inr x) (x4.hh _ _ upd_same)
        · rw [if_neg hn] at hq'
          exact hq'.elim
      | _ => exact (show False from hq).elim
  have E0 : En X m F (upd H p (.dK [])) σ δ := E.ext x0
  have z := pairs_read ks vs F _ _ hkl E0 h1
  refine tPairs_mono ks vs _ _ _ (fun ps H2 q => ?_) z
  obtain ⟨us, e1, q1, q2⟩ := q
  exact ⟨q1, kz ks us, e1, Nat.le_trans (kz_len ks us) hk15, q2⟩
end
end Rh

set_option Elab.async false
set_option linter.all false
set_option maxRecDepth 100000
set_option maxHeartbeats 1000000
/-! Dicts whose keys are nested tuples. -/
namespace Rh
open PySem PySem.Spec PyProof.Rows L2
mutual
theorem eqv_key : ∀ a b : NestedKey, PyData.eqv a.data b.data = NestedKey.beq a b
  | .none, .none => rfl
  | .num a, .num b => by
    simp only [NestedKey.data, PyData.eqv, NestedKey.beq]
    exact Bool.eq_iff_iff.mpr (by rw [beq_iff_eq, decide_eq_true_eq])
  | .text a, .text b => by
    simp only [NestedKey.data, PyData.eqv, NestedKey.beq]
    exact Bool.eq_iff_iff.mpr (by rw [beq_iff_eq, decide_eq_true_eq])
  | .tup a, .tup b => by simpa [NestedKey.data, PyData.eqv, NestedKey.beq] using eqv_keys a b
  | .none, .num _ | .none, .text _ | .none, .tup _ => by simp [NestedKey.data, PyData.eqv, NestedKey.beq]
  | .num _, .none | .num _, .text _ | .num _, .tup _ => by simp [NestedKey.data, PyData.eqv, NestedKey.beq]
  | .text _, .none | .text _, .num _ | .text _, .tup _ => by simp [NestedKey.data, PyData.eqv, NestedKey.beq]
  | .tup _, .none | .tup _, .num _ | .tup _, .text _ => by simp [NestedKey.data, PyData.eqv, NestedKey.beq]
theorem eqv_keys : ∀ a b : List NestedKey, PyData.eqvAll (NestedKey.datas a) (NestedKey.datas b) = NestedKey.beqAll a b
  | [], [] => rfl
  | a :: as, b :: bs => by simp [NestedKey.datas, PyData.eqvAll, NestedKey.beqAll, eqv_key a b, eqv_keys as bs]
  | [], _ :: _ => by simp [NestedKey.datas, PyData.eqvAll, NestedKey.beqAll]
  | _ :: _, [] => by simp [NestedKey.datas, PyData.eqvAll, NestedKey.beqAll]
end
theorem eqv_dec (a b : NestedKey) : PyData.eqv a.data b.data = decide (a = b) := by rw [eqv_key, NestedKey.decide_eq]
mutual
theorem data_toKey1 : ∀ d : PyData, isKeyAll [d] = true → (toKey d).data = d
  | .none, _ => rfl
  | .int _, _ => rfl
  | .str _, _ => rfl
  | .tuple xs, h => by
    have h2 : (isKeyAll xs && isKeyAll []) = true := by simpa [isKeyAll] using h
    rw [Bool.and_eq_true] at h2
    simp [toKey, NestedKey.data, data_toKeys xs h2.1]
  | .bool _, h => by simp [isKeyAll] at h
  | .list _, h => by simp [isKeyAll] at h
  | .dict _, h => by simp [isKeyAll] at h
theorem data_toKeys : ∀ xs : List PyData, isKeyAll xs = true → NestedKey.datas (toKeys xs) = xs
  | [], _ => rfl
  | x :: r, h => by
    have h2 : isKeyAll [x] = true ∧ isKeyAll r = true := by
      cases x <;> simp_all [isKeyAll]
    rw [toKeys, NestedKey.datas, data_toKey1 x h2.1, data_toKeys r h2.2]
end
theorem isKey_some {d : PyData} (h : isKey d = true) : ∃ k : NestedKey, k.data = d ∧ k.depth ≤ 8 := by
  cases d with
  | tuple xs =>
    have h2 : (isKeyAll xs && decide ((NestedKey.tup (toKeys xs)).depth ≤ 8)) = true := h
    rw [Bool.and_eq_true] at h2
    exact ⟨.tup (toKeys xs), by simp [NestedKey.data, data_toKeys xs h2.1], of_decide_eq_true h2.2⟩
  | _ => cases h
section
variable {X : Cx} {m : Mo} {F H F' H' : Hp} {σ : L2.St} {δ : Ev}
mutual
/-- a key in the heap -/
theorem nested_of {pins : List (Addr × Obj)} {s : Shared} (I : Inv X pins σ H s) (sF : Same F H) : ∀ (k : NestedKey) (v : V) (u : Value), RP X F v k.data → RelV v u → NestedIs s.heap k u
  | .none, _, _, .non, r => by
    cases (show _ = Value.none from r)
    exact .none
  | .num i, _, _, .int _, r => by
    obtain ⟨t, rfl⟩ := r
    exact .int _ _
  | .text x, _, _, .str _, r => by
    obtain ⟨t, rfl⟩ := r
    exact .text _ _
  | .tup ks, _, u, .tup (a := a) h rr, r => by
    cases (show u = Value.ref a from r)
    obtain ⟨us, rv, ⟨o, h1, h2, n, h3⟩, _⟩ := I.tuple (h.mono sF).sq
    exact .tup h1 h2 h3 (by simpa using nested_all I sF ks _ us rr rv)
theorem nested_all {pins : List (Addr × Obj)} {s : Shared} (I : Inv X pins σ H s) (sF : Same F H) : ∀ (ks : List NestedKey) (vs : List V) (us : List Value), RPA X F vs (NestedKey.datas ks) → Vals vs us → NestedAll s.heap ks us
  | [], _, _, .nil, .nil => .nil
  | k :: ks, _, _, .cons h t, .cons r rr => .cons (nested_of I sF k _ _ h r) (nested_all I sF ks _ _ t rr)
end
abbrev KX := NestedKey × Addr × Value
theorem RpD.len {P : Program} {w : World} {K : PySem.W.Frag} : ∀ {xs : List KX} {kvs : List (PyData × PyData)}, RpD P w K F xs kvs → xs.length = kvs.length
  | _, _, .nil => rfl
  | _, _, .cons _ _ _ t => congrArg (· + 1) (RpD.len t)
theorem RpD.keys {P : Program} {w : World} {K : PySem.W.Frag} : ∀ {xs : List KX} {kvs : List (PyData × PyData)}, RpD P w K F xs kvs → ∀ x ∈ xs, Rp P w K F (.ref x.2.1) x.1.data
  | _, _, .nil, x, hx => by cases hx
  | _, _, .cons h _ _ t, x, hx => by
    rcases List.mem_cons.mp hx with e | hx
    · subst e
      exact h
    · exact RpD.keys t x hx
/-- what is looked up -/
theorem RpD.look {P : Program} {w : World} {K : PySem.W.Frag} (k : NestedKey) : ∀ {xs : List KX} {kvs : List (PyData × PyData)}, RpD P w K F xs kvs →
    (dlook kvs k.data = none ∧ atKey xs k = none) ∨ ∃ d b u v, dlook kvs k.data = some d ∧ atKey xs k = some (b, u) ∧ RelV v u ∧ Rp P w K F v d
  | _, _, .nil => .inl ⟨rfl, rfl⟩
  | _, _, .cons (k := k2) (b := b) (u := u) (v := v) (d := d) (xs := xs) (kvs := kvs) h r z t => by
    by_cases hk : k2 = k
    · subst hk
      refine .inr ⟨d, b, u, v, ?_, ?_, r, z⟩
      · simp [dlook, eqv_dec]
      · simp [atKey]
    · have e1 : dlook ((k2.data, d) :: kvs) k.data = dlook kvs k.data := by simp [dlook, List.find?_cons, eqv_dec, hk]
      have e2 : atKey ((k2, b, u) :: xs) k = atKey xs k := by simp [atKey, List.find?_cons, hk]
      rw [e1, e2]
      exact RpD.look k t
theorem putAt_other {k : NestedKey} {v : Value} : ∀ {xs : List KX}, k ∉ xs.map (·.1) → xs.map (putAt k v) = xs
  | [], _ => rfl
  | x :: r, h => by
    rw [List.map_cons, List.mem_cons, not_or] at h
    rw [List.map_cons, putAt_other h.2, putAt, if_neg fun z => h.1 z.symm]
theorem RpD.put {P : Program} {w : World} {K : PySem.W.Frag} {k : NestedKey} {a : Addr} {u : Value} {v : V} {d : PyData} (ha : Rp P w K F (.ref a) k.data) (ru : RelV v u) (rd : Rp P w K F v d) : ∀ {xs : List KX} {kvs : List (PyData × PyData)}, RpD P w K F xs kvs → (xs.map (·.1)).Nodup →
    RpD P w K F (storedH xs k a u) (dput k.data d kvs)
  | _, _, .nil, _ => .cons ha ru rd .nil
  | _, _, .cons (k := k2) (b := b) (u := u2) (v := v2) (d := d2) (xs := xs) (kvs := kvs) h r z t, hn => by
    rw [List.map_cons, List.nodup_cons] at hn
    by_cases hk : k2 = k
    · subst hk
      have e1 : dput k2.data d ((k2.data, d2) :: kvs) = (k2.data, d) :: kvs := by simp [dput, eqv_dec]
      have e2 : storedH ((k2, b, u2) :: xs) k2 a u = (k2, b, u) :: xs := by
        have e3 : (atKey ((k2, b, u2) :: xs) k2).isSome = true := by simp [atKey]
        rw [storedH, if_pos e3, List.map_cons, putAt_other hn.1]
        simp [putAt]
      rw [e1, e2]
      exact .cons h ru rd t
    · have e1 : dput k.data d ((k2.data, d2) :: kvs) = (k2.data, d2) :: dput k.data d kvs := by simp [dput, eqv_dec, hk]
      have e2 : storedH ((k2, b, u2) :: xs) k a u = (k2, b, u2) :: storedH xs k a u := by
        have e3 : atKey ((k2, b, u2) :: xs) k = atKey xs k := by simp [atKey, List.find?_cons, hk]
        unfold storedH
        rw [e3]
        split
        · rw [List.map_cons]
          simp [putAt, hk]
        · rfl
      rw [e1, e2]
      exact .cons h r z (RpD.put ha ru rd t hn.2)
/-- the library's word for such a dict -/
theorem DN.ofH {pins : List (Addr × Obj)} {s : Shared} {a : Addr} {xs : List KX} {kvs : List (PyData × PyData)} (I : Inv X pins σ H s) (sF : Same F H) (e : H a = some (.ext (DN X.prog X.w a xs))) (r : RpD X.prog X.w X.K F xs kvs) :
    s.heap.DictOfH (nestedKind X.prog X.w) a xs ∧ (a == sysModules) = false ∧ xs.length ≤ sizeLine := by
  obtain ⟨⟨z1, z2, z3, z4, o, es, ep, h1, h2, h3, h4⟩, _⟩ := (show ObjOk X.prog X.w H s.heap a (.ext (DN X.prog X.w a xs)) from I.hok a _ e)
  exact ⟨⟨o, es, ep, h1, h2, h3, h4, fun x hx => ⟨nested_of I sF x.1 _ _ (r.keys x hx) rfl, z4 x hx⟩, z3⟩, z1, z2⟩
theorem DN.toH {h : Heap} {a : Addr} {xs : List KX} {P : Program} {w : World} (x : h.DictOfH (nestedKind P w) a xs) (z1 : (a == sysModules) = false) (z2 : xs.length ≤ sizeLine) : DN P w a xs h := by
  obtain ⟨o, es, ep, h1, h2, h3, h4, h5, h6⟩ := x
  exact ⟨z1, z2, h6, fun x hx => (h5 x hx).2, o, es, ep, h1, h2, h3, h4⟩
end
end Rh

set_option Elab.async false
set_option linter.all false
set_option maxRecDepth 100000
set_option maxHeartbeats 1000000
/-! sorted, of whatever can be collected. -/
namespace Rh
open PySem PySem.Spec PySem.Calls PyProof.Rows L2 PySem.W
section
variable {prog : Program} {w : World} {A : Around} {E : Value → Shared → Prop} {s : Shared}
theorem sorted_any {r : Addr} {vs : List Value} {bs : List PyData} {Rl : Value → PyData → Prop} {Q : Value → Shared → Prop}
    (hcol : ∀ R : List Value → Shared → Prop, (∀ (h' : Heap) (tk : Nat), (∀ b o, s.heap.get? b = some o → h'.get? b = some o) → R vs { s with heap := h', toks := tk }) → wpAny (model prog w) A.in1 (collect (.ref r)) R E s)
    (e : EachIs Rl vs bs) (er : EachIs (fun v b => ∃ as, Reads s.heap v b as) vs bs) (hal : AllAlike bs) (hk : Sortable bs) (hL : bs.length ≤ sizeLine) (hu : ∀ b, b ∈ bs → A.units + 2 + b.depth < cLine)
    (h : ∀ (h1 h' : Heap) (tk : Nat) (out : List Value) (c : Nat), (∀ b o, s.heap.get? b = some o → h1.get? b = some o) → (∀ b o, h1.get? b = some o → h'.get? b = some o) → h'.get? h1.objs.size = some (seqObj "list" out.toArray c) → EachIs Rl out (bs.mergeSort (dataLe false id)) → Q (.ref h1.objs.size) { s with heap := h', toks := tk }) :
    wpAny (model prog w) A (call (.builtin "sorted") [.ref r]) Q E s := by
  refine call_function_entry kind_sorted plain_sorted entry_sorted (args_sorted1 _) ?_
  unfold Builtin.«sorted»
  refine wpAny_bind (m := checkCount "sorted" 1 1 _) (wpAny_pure ?_)
  refine wpAny_bind (hcol _ fun h' tk kp => ?_)
  refine wpAny_bind (wpAny_newList ?_ (by rw [e.length]; exact hL))
  have ha : (h'.push { cls := .type "list", data := .seq vs.toArray }).get? h'.objs.size = some (seqObj "list" vs.toArray 0) := Heap.get?_push_size _ rfl
  have kold : ∀ b o, s.heap.get? b = some o → b ≠ h'.objs.size ∧ (h'.push { cls := .type "list", data := .seq vs.toArray }).get? b = some o := fun b o q => ⟨Nat.ne_of_lt (Heap.lt_size (kp b o q)), Heap.get?_push_of_some _ (kp b o q)⟩
  have er' : EachIs (fun v b => ∃ as, Reads (sortingHeap (h'.push { cls := .type "list", data := .seq vs.toArray }) h'.objs.size vs) v (id b) as) vs bs :=
    er.mono fun _ _ ⟨as, r⟩ => ⟨as, PyProof.Rows.Reads.keeps (fun b o q => sortingHeap_old (kold b o q).1 (kold b o q).2) r⟩
  have hg : wpAny (model prog w) A.in1 (call (.builtin "list.sort") [.ref h'.objs.size]) (fun _ s' => Q (.ref h'.objs.size) s') E { s with heap := h'.push { cls := .type "list", data := .seq vs.toArray }, toks := tk } := by
    refine wpAny_call_entry slot_list_sort ⟨_, ha, rfl⟩ entry_list_sort (list_sort_vals (κ := dataKind (sortingHeap (h'.push { cls := .type "list", data := .seq vs.toArray }) h'.objs.size vs) bs) ha
      (SortsAt.data (s := { s with heap := sortingHeap (h'.push { cls := .type "list", data := .seq vs.toArray }) h'.objs.size vs, toks := tk }) er' hal hk (fun d hd => hu d hd)) (by rw [e.length]; exact hL) ⟨.none, rfl, ?_⟩) (args_list_sort _)
    have hid : bs.map id = bs := List.map_id _
    have eo := sortVals_data (h' := sortingHeap (h'.push { cls := .type "list", data := .seq vs.toArray }) h'.objs.size vs) (enc := id) false e er' (by rw [hid]; exact hal)
    rw [hid] at eo
    obtain ⟨c, hc⟩ := sortedHeap_at (vs := vs) (out := (sortVals (dataKind (sortingHeap (h'.push { cls := .type "list", data := .seq vs.toArray }) h'.objs.size vs) bs) false vs vs).toArray) ha
    refine h h' _ tk _ c kp (fun b o q => ?_) hc eo
    have q1 : b ≠ h'.objs.size := Nat.ne_of_lt (Heap.lt_size q)
    have q2 : (h'.push { cls := .type "list", data := .seq vs.toArray }).get? b = some o := Heap.get?_push_of_some _ q
    exact (sortedHeap_old q1 (Heap.lt_size q2)).trans q2
  refine wpAny_bind (wpAny_holding (wpAny_mono hg (fun _ s' x => ?_) fun _ _ e => e))
  exact wpAny_pure ⟨_, rfl, x⟩
end
end Rh

set_option Elab.async false
set_option linter.all false
set_option maxRecDepth 100000
set_option maxHeartbeats 1000000
/-! sorted over data; dicts made and changed. -/
namespace Rh
open PySem PySem.Spec PyProof.Rows L2
section
variable {X : Cx} {m : Mo} {F H F' H' : Hp} {σ : L2.St} {δ : Ev}
def RlD (X : Wd) (F : Hp) (u : Value) (d : PyData) : Prop := ∃ v : V, RelV v u ∧ RP X F v d
theorem each_of : ∀ {vs : List V} {us : List Value} {ds : List PyData}, Vals vs us → RPA X F vs ds → PySem.W.EachIs (RlD X F) us ds
  | _, _, _, .nil, .nil => .nil
  | _, _, _, .cons r rr, .cons h t => .cons ⟨_, r, h⟩ (each_of rr t)
theorem of_each : ∀ {us : List Value} {ds : List PyData}, PySem.W.EachIs (RlD X F) us ds → ∃ vs, Vals vs us ∧ RPA X F vs ds
  | _, _, .nil => ⟨[], .nil, .nil⟩
  | _, _, .cons ⟨v, r, h⟩ t => by
    obtain ⟨vs, r2, h2⟩ := of_each t
    exact ⟨v :: vs, .cons r r2, .cons h h2⟩
theorem reads_of {pins : List (Addr × Obj)} {s : Shared} (I : Inv X pins σ H s) (sF : Same F H) : ∀ {us : List Value} {ds : List PyData}, PySem.W.EachIs (RlD X F) us ds → (∀ d ∈ ds, PyData.canLay0 d = true) → PySem.W.EachIs (fun u d => ∃ as, Reads s.heap u d as) us ds
  | _, _, .nil, _ => .nil
  | _, _, .cons ⟨v, r, h⟩ t, hc => .cons (Dp.reads I _ v _ (h.dp sF (hc _ List.mem_cons_self)) r) (reads_of I sF t fun d hd => hc d (List.mem_cons_of_mem _ hd))
theorem sortable_ok {ds : List PyData} (h : sortable ds = true) : PySem.W.AllAlike ds ∧ PySem.W.Sortable ds ∧ ds.length ≤ lim ∧ (∀ d ∈ ds, d.depth ≤ 50) ∧ ∀ d ∈ ds, PyData.canLay0 d = true := by
  unfold sortable at h
  rw [Bool.and_eq_true, Bool.and_eq_true, Bool.and_eq_true] at h
  obtain ⟨⟨⟨h1, h2⟩, h3⟩, h4⟩ := h
  refine ⟨fun d hd d' hd' => List.all_eq_true.mp (List.all_eq_true.mp h1 d hd) d' hd', ?_, of_decide_eq_true h3, fun d hd => ?_, fun d hd => ?_⟩
  · rw [Bool.or_eq_true] at h2
    rcases h2 with h2 | h2
    · refine .inl fun d hd => ?_
      have z := List.all_eq_true.mp h2 d hd
      split at z
      · exact ⟨_, _, rfl⟩
      · cases z
    · refine .inr fun d hd => ?_
      have z := List.all_eq_true.mp h2 d hd
      refine ⟨fun q => ?_, fun xs q => ?_⟩
      · subst q
        cases z
      · subst q
        cases z
  · have z := List.all_eq_true.mp h4 d hd
    rw [Bool.and_eq_true] at z
    exact of_decide_eq_true z.1
  · have z := List.all_eq_true.mp h4 d hd
    rw [Bool.and_eq_true] at z
    exact z.2
theorem mergeSort_len (ds : List PyData) : (sortD ds).length = ds.length := (List.mergeSort_perm ds _).length_eq
/-- the end of sorted: what was collected reads as ds -/
theorem sort_fin {pins : List (Addr × Obj)} {s : Shared} {r : Addr} {us : List Value} {ds : List PyData} {Q : VK} (hu : X.A.units + 100 < cLine) (I : Inv X pins σ H s) (sF : Same F H)
    (hcol : ∀ R : List Value → Shared → Prop, (∀ (h' : Heap) (tk : Nat), (∀ b o, s.heap.get? b = some o → h'.get? b = some o) → R us { s with heap := h', toks := tk }) → wpAny (model X.prog X.w) X.A.in1 (collect (.ref r)) R X.xe s)
    (he : PySem.W.EachIs (RlD X F) us ds) (hs : sortable ds = true) (q : ∀ v F' H', Ext F H F' H' → RP X F' v (.list (sortD ds)) → Q v H') :
    wpAny (model X.prog X.w) X.A (call (.builtin "sorted") [.ref r]) (EP X pins σ Q) X.xe s := by
  obtain ⟨s1, s2, s3, s4, s5⟩ := sortable_ok hs
  refine sorted_any hcol he (reads_of I sF he s5) s1 s2 (lim_line s3) (fun b hb => ?_) fun h1 h' tk out c k1 k2 hD eo => ?_
  · have := s4 b hb
    omega
  · obtain ⟨vs, rv, ra⟩ := of_each eo
    have J : Inv X pins σ H { s with heap := h1, toks := tk } := I.kept k1
    have nf : H h1.objs.size = none := J.hok.fresh (Nat.le_refl _)
    have ln : vs.length = ds.length := by
      rw [ra.length]
      exact mergeSort_len ds
    refine ⟨.ref h1.objs.size, upd H h1.objs.size (.lst vs), J.laid (t' := tk) (o := .lst vs) (h' := h') (fun b o e => k2 b o e) (Nat.le_refl _) ⟨by rw [ln]; exact lim_line s3, out, c, rv, hD⟩, rfl, ?_⟩
    exact q _ (upd F h1.objs.size (.lst vs)) _ (.alloc sF nf) (.lst upd_same (ra.mono (same_upd (sF.free nf))))
theorem RpD.items {P : Program} {w : World} {K : PySem.W.Frag} : ∀ {xs : List KX} {kvs : List (PyData × PyData)}, RpD P w K F xs kvs → PySem.W.EachIs (RlD ⟨P, w, K⟩ F) (xs.map fun x => .ref x.2.1) (kvs.map (·.1))
  | _, _, .nil => .nil
  | _, _, .cons (b := b) h _ _ t => .cons ⟨.ref b, rfl, h⟩ (RpD.items t)
theorem sorted_ok (hc : X.calm = true) (hu : X.A.units + 100 < cLine) : CallR X (.builtin "sorted") (rC1 X (bi1D .sorted)) := by
  intro pins s σ H xs us Q I r ⟨F, x, d, d', ex, sF, hx, e, q⟩
  subst ex
  obtain ⟨u, rfl, rx⟩ := vals1 r
  have key : ∀ (a : Addr) (us : List Value) (ds : List PyData) (d' : PyData), (∀ R : List Value → Shared → Prop, (∀ (h' : Heap) (tk : Nat), (∀ b o, s.heap.get? b = some o → h'.get? b = some o) → R us { s with heap := h', toks := tk }) → wpAny (model X.prog X.w) X.A.in1 (collect (.ref a)) R X.xe s) →
      PySem.W.EachIs (RlD X F) us ds → (if sortable ds = true then some (PyData.list (sortD ds)) else none) = some d' → (∀ v F' H', Ext F H F' H' → RP X F' v d' → Q v H') → wpAny (model X.prog X.w) X.A (call (.builtin "sorted") [.ref a]) (EP X pins σ Q) X.xe s := by
    intro a us ds d' hcol he e q
    by_cases hs : sortable ds = true
    · rw [if_pos hs] at e
      cases e
      exact sort_fin hu I sF hcol he hs q
    · rw [if_neg hs] at e
      cases e
  have h0 : s.toks = s.toks := rfl
  unfold bi1D at e
  split at e <;> first | (rename_i h; cases h; done) | skip
  all_goals first | (cases e; done) | skip
  · rename_i ds _
    cases hx with
    | @lst a vs _ ha ra =>
      cases rx
      obtain ⟨its, rv, ⟨o, n, o1, o2, o3, o4⟩, hz⟩ := I.list (SqL.of (sF _ _ ha))
      refine key a its ds d' (fun R hR => wpAny_collect_seq a (.inl rfl) o1 o2 o4 (fun h' k => ?_) (by rw [List.size_toArray, ← rv.length]; exact hz)) (each_of rv ra) e q
      have z := hR h' s.toks k
      simpa using z
  · rename_i ds _
    cases hx with
    | @tup a vs _ ha ra =>
      cases rx
      obtain ⟨its, rv, ⟨o, o1, o2, n, o3⟩, hz⟩ := I.tuple (ha.mono sF).sq
      refine key a its ds d' (fun R hR => wpAny_collect_seq a (.inr rfl) o1 o2 o3 (fun h' k => ?_) (by rw [List.size_toArray, ← rv.length]; exact hz)) (each_of rv ra) e q
      have z := hR h' s.toks k
      simpa using z
  · rename_i kvs _
    have e : (if sortable (kvs.map (·.1)) = true then some (PyData.list (sortD (kvs.map (·.1)))) else none) = some d' ∧ (kvs.all fun p => isKey p.1) = true := by
      by_cases z : ((kvs.all fun p => isKey p.1) && sortable (kvs.map (·.1))) = true
      · rw [if_pos z] at e
        rw [Bool.and_eq_true] at z
        rw [if_pos z.2]
        exact ⟨e, z.1⟩
      · rw [if_neg z] at e
        cases e
    obtain ⟨e, ek⟩ := e
    generalize hd : PyData.dict kvs = dd at hx
    cases hx with
    | @dic a xs kvs2 ha ra =>
      injection hd with hd
      subst hd
      cases rx
      obtain ⟨hm, lo, hz⟩ := DN.ofH I sF (sF _ _ ha) ra
      obtain ⟨o, es, ep, h1, h2, h3, h4, _, _⟩ := hm
      have hes : es.size = xs.length := size_of_entries h4
      refine key a (xs.map fun x => .ref x.2.1) (kvs.map (·.1)) d' (fun R hR => ?_) ra.items e q
      refine PySem.W.kdu_collect (KdlSrc.rawDict (es := es) (ep := ep) lo) (I.ok.hd hc) ⟨o, h1, h2, h3⟩ (by rw [hes]; exact hz) fun h' tk acc k hi => ?_
      have ea : acc.toList = xs.map fun x => .ref x.2.1 := by
        apply List.ext_getElem?
        intro j
        rw [List.getElem?_map]
        by_cases hj : j < xs.length
        · have hl : j < acc.size := by rw [hi.1, hes]; exact hj
          obtain ⟨hj2, e2⟩ := hi.2 j acc[j] (by simp [hl])
          have e3 : es[j]? = (xs[j]?).map (entryOfKey (nestedKind X.prog X.w)) := entry_at h4 j
          rw [Array.getElem?_eq_getElem hj2, List.getElem?_eq_getElem hj] at e3
          have e4 : es[j] = entryOfKey (nestedKind X.prog X.w) xs[j] := Option.some.inj e3
          rw [Array.getElem?_toList, Array.getElem?_eq_getElem hl, e2, e4, List.getElem?_eq_getElem hj]
          rfl
        · have z1 : xs[j]? = none := List.getElem?_eq_none (by omega)
          have z2 : acc.toList[j]? = none := List.getElem?_eq_none (by rw [Array.length_toList, hi.1, hes]; omega)
          rw [z1, z2]
          rfl
      rw [ea]
      exact hR h' tk k
    | @scr a ns h =>
      have z : kvs = [(.str "script", .list (ns.map .int))] := by
        injection hd
      subst z
      cases ek
    | _ => cases hd

/-! ### dicts made and changed -/
def tDN (X : Wd) : TE := fun _ H Q => ∀ p, H p = none → Q (.ref p) (upd H p (.ext (DN X.prog X.w p [])))
theorem pe_dn {pos : Pos} : PE X (.Dict [] [] pos) (tDN X) := ⟨fun pins s σ H Q I h =>
  wpAny_Dict_empty ⟨.ref s.heap.objs.size, _, I.laid (a := s.heap.objs.size) (o := .ext (DN X.prog X.w s.heap.objs.size [])) (t' := s.toks) (fun _ _ q => Heap.get?_push_of_some _ q) (Nat.le_refl _)
    (DN.obj (DN.toH (Heap.DictOfH.new _) (beq_eq_false_iff_ne.mpr (Ne.symm (Nat.ne_of_lt I.big))) (Nat.zero_le _))), rfl, h _ (I.hok.fresh (Nat.le_refl _))⟩⟩
theorem s_newD {i : Nat} {x : Str} {pos pos' lp : Pos} (hN : X.N.Nodup) (hi : X.N[i]? = some x) (hx : Loc X.env.scope x) (hf : X.fn x = true ∨ X.env.scope.names.lookup x = some .local) :
    PS X (.Assign [.Name x pos'] (.Dict [] [] lp) pos) (SS X m (.newD i)) := by
  refine (ps_set hN hi hx (pe_dn (pos := lp)) rfl hf).imp fun D σ H ⟨F, δ, E, h⟩ => ?_
  intro p np
  have nf : F p = none := E.sub.free np
  have n0 : m.H0 p = none := E.old.free np
  have E2 : En X m F (upd H p (.ext (DN X.prog X.w p []))) σ δ := E.updO nf n0 (E.fresh np)
  exact h _ F _ (E2.setOwn nf n0 ⟨[], upd_same, .nil⟩ fun j e _ hj => E.fresh np j e hj) .refl
/-- d[k] = v -/
def sDPutN (X : Cx) (td ty tv : TE) : TS := fun D σ H => tv σ H fun v H1 => td σ H1 fun x H2 => ty σ H2 fun y H3 => ∃ (F : Hp) (a b : Addr) (xs : List KX) (kvs : List (PyData × PyData)) (k : NestedKey), x = .ref a ∧ y = .ref b ∧ Same F H3 ∧ H3 a = some (.ext (DN X.prog X.w a xs)) ∧
  RpD X.prog X.w X.K F xs kvs ∧ RP X F (.ref b) k.data ∧ k.depth ≤ 8 ∧ xs.length < sizeLine ∧ ∀ u, RelV v u → (xs.map (·.1)).Nodup → D.nx σ (upd H3 a (.ext (DN X.prog X.w a (storedH xs k b u))))
theorem storedH_len (xs : List KX) (k : NestedKey) (b : Addr) (u : Value) : (storedH xs k b u).length ≤ xs.length + 1 := by
  unfold storedH
  split
  · rw [List.length_map]
    omega
  · rw [List.length_append]
    exact Nat.le_refl _
theorem ps_dputN {o i value : Expr} {pos pos' : Pos} {td ty tv : TE} (hu : X.A.units + 100 < cLine) (ho : PE X o td) (hi : PE X i ty) (hv : PE X value tv) (hs : swapsWith value (some (.Subscript o i pos')) pos.line X.env = pure false) :
    PS X (.Assign [.Subscript o i pos'] value pos) (sDPutN X td ty tv) := by
  refine ⟨fun pins s σ H D I h => ?_⟩
  refine wpAny_Assign_Subscript (thn (hv.run pins s σ H _ I h) fun r s1 ⟨v, H1, I1, rv, q1⟩ => thn (ho.run pins s1 σ H1 _ I1 q1) fun u s2 ⟨x, H2, I2, rx, q2⟩ => thn (hi.run pins s2 σ H2 _ I2 q2) fun iv s3 ⟨y, H3, I3, ry, F, a, b, xs, kvs, k, ex, ey, sF, ha, ra, rb, dk, ln, q3⟩ => ?_) hs
  subst ex ey
  obtain rfl : u = Value.ref a := rx
  obtain rfl : iv = Value.ref b := ry
  obtain ⟨hm, lo, hz⟩ := DN.ofH I3 sF ha ra
  refine wpAny_setItem_heap (knd := nestedKind X.prog X.w) (hsz := hz) (show X.A.in1.units + 8 < cLine from ?_) ⟨nested_of I3 sF k _ _ rb rfl, dk⟩ hm fun h' hm' hs' => ?_
  · have z : X.A.in1.units = X.A.units + 1 := rfl
    omega
  · have hq : ∃ q, h'.get? a = some q := let ⟨q, _, _, hq, _⟩ := hm'; ⟨q, hq⟩
    have J := d_write (t' := s3.toks + (nestedKind X.prog X.w).draws k) I3 (by rw [ha]; exact True.intro) hs' hq (DN.obj (H := upd H3 a (.ext (DN X.prog X.w a (storedH xs k b r)))) (DN.toH hm' lo (by have := storedH_len xs k b r; omega)))
    exact ⟨σ, _, J, q3 r rv hm.nodup⟩
theorem s_dput {i : Nat} {x : Str} {ke ve : Expr} {ck cv : DE} {np pos pos' : Pos} (hu : X.A.units + 100 < cLine) (hN : X.N[i]? = some x) (hv : Vis X.env.scope x) (hd : (x == ("__debug__" : Str)) = false) (hcd : (x == ("__classdict__" : Str)) = false) (h1 : PE X ke (T X m ck)) (h2 : PE X ve (T X m cv))
    (hs : swapsWith ve (some (.Subscript (.Name x np) ke pos')) pos.line X.env = pure false) : PS X (.Assign [.Subscript (.Name x np) ke pos'] ve pos) (SS X m (.dput i ck cv)) := by
  refine (ps_dputN hu (pe_var hN hv hd hcd) h1 h2 hs).imp fun D σ H ⟨F, δ, E, h⟩ => ?_
  refine T.st E h fun d v F1 H1 x1 E1 rv hq => ?_
  have hq' : RzS X m F1 D (match δ[i]? with
    | some (some (.own (.dict kvs))) => .ofR (ev m.g m.f ck δ) fun kd => if isKey kd && decide (kvs.length < lim) then .nx (slot δ i (.own (.dict (dput kd d kvs)))) else .stuck
    | _ => .stuck) := hq
  split at hq'
  · rename_i kvs ei
    obtain ⟨p, ep, xs, hp, r⟩ := own_at E1 ei
    refine ⟨.ref p, ep, ?_⟩
    refine T.st E1 hq' fun kd vk F2 H2 x2 E2 rk hq2 => ?_
    by_cases hk : (isKey kd && decide (kvs.length < lim)) = true
    · rw [if_pos hk] at hq2
      rw [Bool.and_eq_true] at hk
      obtain ⟨k, ek, dk⟩ := isKey_some hk.1
      subst ek
      have hl : kvs.length < lim := of_decide_eq_true hk.2
      have rb : ∃ b, vk = .ref b := by
        have z := hk.1
        cases k with
        | tup ks =>
          cases rk
          exact ⟨_, rfl⟩
        | _ => cases z
      obtain ⟨b, rfl⟩ := rb
      have hp2 := x2.hh _ _ hp
      refine ⟨F2, p, b, xs, kvs, k, rfl, rfl, E2.sub, hp2, r.mono x2.ff, rk, dk, lim_lt (by rw [r.len]; exact hl), fun u ru z3 => ?_⟩
      exact hq2 σ F2 _ (E2.write ei ep ⟨_, upd_same, (r.mono x2.ff).put rk ru (rv.mono x2.ff) z3⟩) .refl
    · rw [if_neg hk] at hq2
      exact hq2.elim
  · exact hq'.elim
end
end Rh

set_option Elab.async false
set_option linter.all false
set_option maxRecDepth 100000
set_option maxHeartbeats 1000000
/-! min over data. -/
namespace Rh
open PySem PySem.Spec PyProof.Rows L2
theorem minL_snoc : ∀ (l : List PyData) (b x : PyData), minL (l ++ [x]) b = if PySem.W.dataLt x (minL l b) then x else minL l b
  | [], b, x => rfl
  | a :: l, b, x => minL_snoc l _ x
theorem argBest_min {ds : List PyData} {bt : Nat → Nat → Bool} (hbt : ∀ i j a b, ds[i]? = some a → ds[j]? = some b → bt i j = PySem.W.dataLt a b) : ∀ k, k < ds.length → ds[argBest bt k]? = some (minD (ds.take (k + 1)))
  | 0, h => by
    cases ds with
    | nil => cases h
    | cons x r => rfl
  | k + 1, h => by
    have ih := argBest_min hbt k (by omega)
    obtain ⟨x, hx⟩ : ∃ x, ds[k + 1]? = some x := ⟨_, List.getElem?_eq_getElem h⟩
    have e1 := hbt (k + 1) (argBest bt k) x _ hx ih
    have e2 : ds.take (k + 1 + 1) = ds.take (k + 1) ++ [x] := by
      rw [List.take_add_one (i := k + 1), hx]
      rfl
    have e3 : minD (ds.take (k + 1) ++ [x]) = if PySem.W.dataLt x (minD (ds.take (k + 1))) then x else minD (ds.take (k + 1)) := by
      cases ds with
      | nil => cases hx
      | cons y r =>
        rw [List.take_succ_cons]
        exact minL_snoc _ _ _
    rw [e2, e3]
    simp only [argBest]
    rw [e1]
    split
    · exact hx
    · exact ih
def btD (ds : List PyData) (i j : Nat) : Bool := match ds[i]?, ds[j]? with
  | some a, some b => PySem.W.dataLt a b
  | _, _ => false
theorem minable_ok {ds : List PyData} (h : minable ds = true) : (∀ d ∈ ds, ∀ d' ∈ ds, PySem.W.alike d d' = true) ∧ 0 < ds.length ∧ ds.length ≤ lim ∧ (∀ d ∈ ds, d ≠ .none) ∧ (∀ d ∈ ds, d.depth ≤ 50) ∧ ∀ d ∈ ds, PyData.canLay0 d = true := by
  unfold minable at h
  rw [Bool.and_eq_true, Bool.and_eq_true, Bool.and_eq_true] at h
  obtain ⟨⟨⟨h1, h2⟩, h3⟩, h4⟩ := h
  have z : ∀ d ∈ ds, d ≠ .none ∧ d.depth ≤ 50 ∧ PyData.canLay0 d = true := by
    intro d hd
    have z := List.all_eq_true.mp h4 d hd
    rw [Bool.and_eq_true, Bool.and_eq_true] at z
    refine ⟨fun q => ?_, of_decide_eq_true z.1.2, z.2⟩
    subst q
    exact absurd z.1.1 Bool.false_ne_true
  refine ⟨fun d hd d' hd' => List.all_eq_true.mp (List.all_eq_true.mp h1 d hd) d' hd', ?_, of_decide_eq_true h3, fun d hd => (z d hd).1, fun d hd => (z d hd).2.1, fun d hd => (z d hd).2.2⟩
  cases ds with
  | nil => cases h2
  | cons _ _ => exact Nat.succ_pos _
section
variable {X : Cx} {m : Mo} {F H F' H' : Hp} {σ : L2.St} {δ : Ev}
theorem EachIs.get {R : Value → PyData → Prop} : ∀ {us : List Value} {ds : List PyData} {i : Nat} {u : Value}, PySem.W.EachIs R us ds → us[i]? = some u → ∃ d, ds[i]? = some d ∧ R u d
  | _, _, 0, _, .cons h _, e => by
    cases Option.some.inj e
    exact ⟨_, rfl, h⟩
  | _, _, i + 1, _, .cons _ t, e => EachIs.get (i := i) t (by simpa using e)
/-- min's walk, over things that read as ds -/
theorem min_it {pins : List (Addr × Obj)} {s z : Shared} {it : Addr} {fp : List Addr} {us : List Value} {ds : List PyData} {Tn : Nat → Heap → Prop} {Q : VK} (hu : X.A.units + 100 < cLine) (I : Inv X pins σ H s) (sF : Same F H) (he : PySem.W.EachIs (RlD X F) us ds) (hm : minable ds = true)
    (W : Walks X.prog X.w X.A.in1 it fp [it] us.length (fun i v => us[i]? = some v) Tn) (st : Tn 0 z.heap) (hfp : ∀ b ∈ fp, b < z.heap.objs.size) (hit : s.heap.objs.size ≤ it) (kz : ∀ b o, s.heap.get? b = some o → z.heap.get? b = some o) (ez : ∃ tk, z = { s with heap := z.heap, toks := tk })
    (q : ∀ v, RP X F v (minD ds) → Q v H) : MinIt X.prog X.w X.A (EP X pins σ Q) (.ref it) z := by
  obtain ⟨m1, m2, m3, m4, m5, m6⟩ := minable_ok hm
  have hl : us.length = ds.length := he.length
  have rd := reads_of I sF he m6
  have hbt : ∀ (i j : Nat) (a b : PyData), ds[i]? = some a → ds[j]? = some b → btD ds i j = PySem.W.dataLt a b := by
    intro i j a b e1 e2
    unfold btD
    rw [e1, e2]
  refine ⟨it, fp, [it], us.length, _, Tn, btD ds, rfl, W, st, hfp, by omega, ?_, fun v h' tk pv k => ?_⟩
  · intro i j a b z2 Q2 E2 g pa pb q2
    obtain ⟨da, ea, as, ra⟩ := EachIs.get rd pa
    obtain ⟨db, eb, bs, rb⟩ := EachIs.get rd pb
    have kk : ∀ b o, s.heap.get? b = some o → z2.heap.get? b = some o := fun b o e => g b o (fun y => by
      have y2 := List.mem_singleton.mp y
      have y3 := Heap.lt_size e
      rw [y2] at y3
      exact absurd y3 (Nat.not_lt.mpr hit)) (kz b o e)
    have ma := List.mem_of_getElem? ea
    have mb := List.mem_of_getElem? eb
    rw [hbt i j da db ea eb] at q2
    refine PySem.W.rcLt_alike da db X.A.in1 z2 a b as bs (PyProof.Rows.Reads.keeps kk ra) (PyProof.Rows.Reads.keeps kk rb) (m1 _ ma _ mb) (m4 _ ma) ?_ _ _ _ _ q2
    have z1 : X.A.in1.units = X.A.units + 1 := rfl
    have z2 := m5 da ma
    have z3 : min da.depth db.depth ≤ da.depth := Nat.min_le_left _ _
    omega
  · have e1 := argBest_min hbt (us.length - 1) (by omega)
    have e2 : ds.take (us.length - 1 + 1) = ds := List.take_of_length_le (by omega)
    rw [e2] at e1
    obtain ⟨d, ed, x, rx, rp⟩ := EachIs.get he pv
    rw [e1] at ed
    cases ed
    have kk : ∀ b o, s.heap.get? b = some o → h'.get? b = some o := fun b o e => k b o (fun y => by
      have y2 := List.mem_singleton.mp y
      have y3 := Heap.lt_size e
      rw [y2] at y3
      exact absurd y3 (Nat.not_lt.mpr hit)) (kz b o e)
    obtain ⟨tk2, ez⟩ := ez
    rw [ez]
    exact ⟨x, H, I.kept kk, rx, q x rp⟩
theorem mn2_ok (hc : X.calm = true) (hu : X.A.units + 100 < cLine) : CallR X (.builtin "min") (fun vs H Q => ∃ F x y dx dy d, vs = [x, y] ∧ Same F H ∧ RP X F x dx ∧ RP X F y dy ∧ mn2D dx dy = some d ∧ ∀ v F' H', Ext F H F' H' → RP X F' v d → Q v H') := by
  intro pins s σ H xs us Q I r ⟨F, x, y, dx, dy, d, ex, sF, hx, hy, e, q⟩
  subst ex
  obtain ⟨u, w', rfl, rx, ry⟩ := vals2 r
  unfold mn2D at e
  by_cases hm : minable [dx, dy] = true
  · rw [if_pos hm] at e
    cases e
    have hh : X.A.in1.handled = none := I.ok.hd hc
    have ht : (s.heap.push { cls := .type "tuple", data := .seq #[u, w'] }).IsTuple s.heap.objs.size #[u, w'] := ⟨_, Heap.get?_push_size _ rfl, rfl, _, rfl⟩
    refine min_pair (wpAny_pyIter_tuple (s := { s with heap := s.heap.push { cls := .type "tuple", data := .seq #[u, w'] } }) ht ?_)
    have hsz : (s.heap.push { cls := .type "tuple", data := .seq #[u, w'] }).objs.size = s.heap.objs.size + 1 := Heap.size_push _ _
    generalize hh1 : s.heap.push { cls := .type "tuple", data := .seq #[u, w'] } = h1 at ht hsz ⊢
    have k1 : ∀ b o, s.heap.get? b = some o → h1.get? b = some o := fun b o e => by
      rw [← hh1]
      exact Heap.get?_push_of_some _ e
    have hlt : s.heap.objs.size < h1.objs.size := by
      rw [hsz]
      exact Nat.lt_succ_self _
    have W := Walks.tuple (prog := X.prog) (w := X.w) hh h1.objs.size s.heap.objs.size (Nat.ne_of_lt hlt) #[u, w']
    refine min_it (s := s) (z := { s with heap := h1.push { cls := .type "tuple_iterator", data := .fields #[.ref s.heap.objs.size, .int 0 0] } }) (us := [u, w']) (Tn := fun i h => h.IsTupleIter h1.objs.size s.heap.objs.size i ∧ h.IsTuple s.heap.objs.size #[u, w']) hu I sF (.cons ⟨x, rx, hx⟩ (.cons ⟨y, ry, hy⟩ .nil)) hm
      (by simpa using W) ⟨⟨_, Heap.get?_push_size _ rfl, rfl, rfl⟩, ht.at fun o e => Heap.get?_push_of_some _ e⟩ (fun b hb => ?_) (Nat.le_of_lt hlt) (fun b o e => Heap.get?_push_of_some _ (k1 b o e)) ⟨s.toks, rfl⟩ fun v rv => q v F H (.refl sF) rv
    show b < (h1.push _).objs.size
    rw [Heap.size_push]
    have e' : b = h1.objs.size ∨ b = s.heap.objs.size := by simpa using hb
    rcases e' with e' | e'
    · rw [e']
      exact Nat.lt_succ_self _
    · rw [e']
      exact Nat.lt_succ_of_lt hlt
  · rw [if_neg hm] at e
    cases e
theorem min_ok (hc : X.calm = true) (hu : X.A.units + 100 < cLine) : CallR X (.builtin "min") (rC1 X (bi1D .min)) := by
  intro pins s σ H xs us Q I r ⟨F, x, d, d', ex, sF, hx, e, q⟩
  subst ex
  obtain ⟨u, rfl, rx⟩ := vals1 r
  have hh : X.A.in1.handled = none := I.ok.hd hc
  unfold bi1D at e
  split at e <;> first | (rename_i h; cases h; done) | skip
  all_goals first | (cases e; done) | skip
  · rename_i ds _
    by_cases hm : minable ds = true
    · rw [if_pos hm] at e
      cases e
      cases hx with
      | @lst a vs _ ha ra =>
        cases rx
        obtain ⟨its, rv, pl, hz⟩ := I.list (SqL.of (sF _ _ ha))
        have hl : s.heap.IsList a its.toArray := pl.isList
        have la : a < s.heap.objs.size := pl.lt
        have W := Walks.list (prog := X.prog) (w := X.w) hh s.heap.objs.size a (Nat.ne_of_lt la) its.toArray
        refine min_one (wpAny_pyIter_list hl ?_)
        refine min_it (s := s) (z := { s with heap := s.heap.push { cls := .type "list_iterator", data := .fields #[.ref a, .int 0 0] } }) (us := its) (Tn := fun i h => h.IsListIter s.heap.objs.size a i ∧ h.IsList a its.toArray) hu I sF (each_of rv ra) hm
          (by simpa using W) ⟨⟨_, Heap.get?_push_size _ rfl, rfl, rfl⟩, hl.at fun o e => Heap.get?_push_of_some _ e⟩ (fun b hb => ?_) (Nat.le_refl _) (fun b o e => Heap.get?_push_of_some _ e) ⟨s.toks, rfl⟩ fun v rv => q v F H (.refl sF) rv
        show b < (s.heap.push _).objs.size
        rw [Heap.size_push]
        have e' : b = s.heap.objs.size ∨ b = a := by simpa using hb
        rcases e' with e' | e'
        · rw [e']
          exact Nat.lt_succ_self _
        · rw [e']
          exact Nat.lt_succ_of_lt la
    · rw [if_neg hm] at e
      cases e
  · rename_i ds _
    by_cases hm : minable ds = true
    · rw [if_pos hm] at e
      cases e
      cases hx with
      | @tup a vs _ ha ra =>
        cases rx
        obtain ⟨its, rv, pl, hz⟩ := I.tuple (ha.mono sF).sq
        have hl : s.heap.IsTuple a its.toArray := pl
        have la : a < s.heap.objs.size := by
          obtain ⟨o, ho, _⟩ := pl
          exact Heap.lt_size ho
        have W := Walks.tuple (prog := X.prog) (w := X.w) hh s.heap.objs.size a (Nat.ne_of_lt la) its.toArray
        refine min_one (wpAny_pyIter_tuple hl ?_)
        refine min_it (s := s) (z := { s with heap := s.heap.push { cls := .type "tuple_iterator", data := .fields #[.ref a, .int 0 0] } }) (us := its) (Tn := fun i h => h.IsTupleIter s.heap.objs.size a i ∧ h.IsTuple a its.toArray) hu I sF (each_of rv ra) hm
          (by simpa using W) ⟨⟨_, Heap.get?_push_size _ rfl, rfl, rfl⟩, hl.at fun o e => Heap.get?_push_of_some _ e⟩ (fun b hb => ?_) (Nat.le_refl _) (fun b o e => Heap.get?_push_of_some _ e) ⟨s.toks, rfl⟩ fun v rv => q v F H (.refl sF) rv
        show b < (s.heap.push _).objs.size
        rw [Heap.size_push]
        have e' : b = s.heap.objs.size ∨ b = a := by simpa using hb
        rcases e' with e' | e'
        · rw [e']
          exact Nat.lt_succ_self _
        · rw [e']
          exact Nat.lt_succ_of_lt la
    · rw [if_neg hm] at e
      cases e
end
end Rh

set_option Elab.async false
set_option linter.all false
set_option maxRecDepth 100000
set_option maxHeartbeats 1000000
/-! enumerate over a tuple. -/
namespace Rh
open PySem PySem.Spec PyProof.Rows L2
/-- the iterator of a tuple, new -/
abbrev tIt (t : Addr) : Obj := { cls := .type "tuple_iterator", data := .fields #[.ref t, .int 0 0] }
abbrev enO (it : Addr) : Obj := { cls := .type "enumerate", data := .fields #[.none, .bool false, .ref it, rawInt 0, .none, .none] }
theorem enum_new_tup (t : Addr) (items : Array Value) :
    Meets (Builtin.«enumerate.__new__» ⟨[.type "enumerate", .ref t], []⟩) (fun _ R s => s.heap.IsTuple t items ∧ R (.ok (.ret (.ref (s.heap.push (tIt t)).objs.size))) { s with heap := (s.heap.push (tIt t)).push (enO s.heap.objs.size) }) :=
  .of_wp fun prog w A R s ⟨ht, fin⟩ => by
    obtain ⟨hp, g, d, tk, os⟩ := s
    have hs := sub_enumerate
    have it1 : ∀ {A' : Around} {E : Value → Shared → Prop} {Q : Value → Shared → Prop}, Q (.ref hp.objs.size) ⟨hp.push (tIt t), g, d, tk, os⟩ → wpAny (model prog w) A' (pyIter (.ref t)) Q E ⟨hp, g, d, tk, os⟩ := fun q => wpAny_pyIter_tuple ht q
    wp_walk using it1
    refine wpAny_stack_any fun st0 => wpAny_pure ?_
    split
    · rename_i c0 _ _ _ _ _
      cases (c0 == Value.type "enumerate") <;> (wp_walk using it1; exact ⟨_, rfl, fin⟩)
    · wp_walk using it1
      exact ⟨_, rfl, fin⟩
section
variable {prog : Program} {w : World} {A : Around} {E : Value → Shared → Prop} {s : Shared}
theorem call_enum_tup {t : Addr} {items : Array Value} {Q : Value → Shared → Prop} (ht : s.heap.IsTuple t items)
    (h : ∀ h', IsEnum h' (s.heap.objs.size + 1) s.heap.objs.size 0 .none → h'.IsTupleIter s.heap.objs.size t 0 → (∀ b o, s.heap.get? b = some o → h'.get? b = some o) → Q (.ref (s.heap.objs.size + 1)) { s with heap := h' }) :
    wpAny (model prog w) A (call (.type "enumerate") [.ref t]) Q E s := by
  refine callType_new PySem.F.called_enumerate (by decide) (PySem.F.typeCall_enumerate_1 _) (PySem.F.newCall_enumerate_1 _) (fun obj => PySem.F.args_object_init_2 obj _) PySem.F.entry_enumerate_new (enum_new_tup t items) ⟨ht, ?_⟩
  have hz : (s.heap.push (tIt t)).objs.size = s.heap.objs.size + 1 := Heap.size_push ..
  have he : IsEnum ((s.heap.push (tIt t)).push (enO s.heap.objs.size)) (s.heap.objs.size + 1) s.heap.objs.size 0 .none := by
    have q := Heap.get?_push_size (s.heap.push (tIt t)) (o := enO s.heap.objs.size) rfl
    rw [hz] at q
    exact q
  show _ ∧ _
  rw [hz]
  exact ⟨⟨_, he, rfl⟩, h _ he ⟨_, Heap.get?_push_of_some _ (Heap.get?_push_size _ rfl), rfl, rfl⟩ fun b o x => Heap.get?_push_of_some _ (Heap.get?_push_of_some _ x)⟩
end
/-- the tuple at a, each item in a new pair -/
def IteT (K : PySem.W.Frag) (a : Addr) : It :=
  ⟨fun i H => ∃ (xs : List V) (x : V), SqT K H a xs ∧ xs[i]? = some x, fun i H v H' => ∃ T x, v = .ref T ∧ H T = none ∧ H' = upd H T (.tup [.int (i : Nat), x]) ∧ ∀ xs, SqT K H a xs → xs[i]? = some x, fun i H => ∃ xs : List V, SqT K H a xs ∧ xs.length = i⟩
theorem turn_enumT {P : Program} {w : World} {K : PySem.W.Frag} {elts : List Expr} {kk : Nat} {tpos : Pos} (a e it : Addr) (hae : a ≠ it) (hea : a ≠ e) :
    Turn P w K (.Tuple elts kk tpos) (IteT K a) [e, it] e (fun i h => (∃ old, IsEnum h e it ((i : Nat) : Int) old) ∧ h.IsTupleIter it a i ∧ e ≠ it) where
  mem := List.mem_cons_self
  obj := fun i h st b hb => by
    obtain ⟨⟨old, he⟩, ⟨o, ho, hc, hd⟩, _⟩ := st
    rcases List.mem_cons.mp hb with z | z
    · subst z
      exact ⟨_, he, fun v q => nomatch q⟩
    · exact ⟨o, by rw [List.mem_singleton.mp z]; exact ho, fun v q => by rw [hd] at q; cases q⟩
  keep := fun i h h' st k => by
    obtain ⟨⟨old, he⟩, hi, hne⟩ := st
    exact ⟨⟨old, k e List.mem_cons_self _ he⟩, hi.at fun o q => k it (List.mem_cons_of_mem _ List.mem_cons_self) o q, hne⟩
  item := by
    intro X hP hw hK hc i pins s σ H E I hf st hg
    subst hP hw hK
    obtain ⟨⟨old, he⟩, hit, hne⟩ := st
    obtain ⟨xs, x, hq, hx⟩ := hg
    obtain ⟨its, rv, ht, hz⟩ := I.tuple hq
    obtain ⟨u, hu, ru⟩ := rv.get hx
    have hel : e < s.heap.objs.size := Heap.lt_size he
    have hil : it < s.heap.objs.size := by
      obtain ⟨_, q, _⟩ := hit
      exact Heap.lt_size q
    have D := Draws.tuple (prog := X.prog) (w := X.w) (A := X.A.in1) (I.ok.hd hc) it a hae its.toArray
    have hi : i < its.toArray.size := by
      have z := (List.getElem?_eq_some_iff.mp hu).1
      rw [List.size_toArray]
      exact z
    have hef : e ∉ [it, a] := fun z => by
      rcases List.mem_cons.mp z with z | z
      · exact hne z
      · exact hea (List.mem_singleton.mp z).symm
    refine wpAny_pyNext_enum_itemD D he ⟨hit, ht⟩ hi hne hef fun y h' tk py ho hst hT hsz hk => ?_
    have ey : y = u := by
      have q : its.toArray[i]? = some y := py
      rw [List.getElem?_toArray, hu] at q
      exact (Option.some.inj q).symm
    subst ey
    refine ⟨_, rfl, wpAny_letOwnedTupleGo_enum (s := { s with heap := h', toks := tk + 1 }) ho fun h'' he' sb => ?_⟩
    have hT2 : h''.get? s.heap.objs.size = some { cls := .type "tuple", data := .seq #[.int i tk, y] } := (sb.2 _ (Nat.ne_of_gt hel)).trans hT
    have new : ObjOk X.prog X.w (upd H s.heap.objs.size (.tup [.int (i : Nat), x])) h'' s.heap.objs.size (.tup [.int (i : Nat), x]) := ⟨by show 2 ≤ sizeLine; decide, [.int i tk, y], .cons ⟨_, rfl⟩ (.cons ru .nil), ⟨_, hT2, rfl, _, rfl⟩⟩
    have I1 : Inv X pins σ (upd H s.heap.objs.size (.tup [.int (i : Nat), x])) { s with heap := h'', toks := tk + 1 } :=
      I.turnedNew (ch := [e, it]) (fun b ob hb q => (sb.2 b (fun z => hb (by rw [z]; exact List.mem_cons_self))).trans (hk b ob (fun z => hb (by rw [z]; exact List.mem_cons_self)) (fun z => hb (by rw [z]; exact List.mem_cons_of_mem _ List.mem_cons_self)) q)) hf (Nat.le_refl _) new
    refine ⟨.ref s.heap.objs.size, _, I1, rfl, ⟨_, x, rfl, I.hok.fresh (Nat.le_refl _), rfl, fun ys hy => by rw [I.tuple_inj hy hq]; exact hx⟩, ⟨⟨y, ?_⟩, hst.1.at fun o q => (sb.2 it (Ne.symm hne)).trans q, hne⟩, fun b hb => ?_⟩
    · have e1 : ((i + 1 : Nat) : Int) = (i : Int) + 1 := by omega
      rw [e1]
      exact he'
    · have hb' : b < s.heap.objs.size := by
        rcases List.mem_cons.mp hb with z | z
        · rw [z]
          exact hel
        · rw [List.mem_singleton.mp z]
          exact hil
      rw [upd_ne (Nat.ne_of_lt hb')]
      exact (hf b hb).1
  done := by
    intro X hP hw hK hc i pins s σ H E I hf st hg
    subst hP hw hK
    obtain ⟨⟨old, he⟩, hit, hne⟩ := st
    obtain ⟨xs, hq, hx⟩ := hg
    obtain ⟨its, rv, ht, hz⟩ := I.tuple hq
    obtain ⟨f0, f1, f2, f3, f4, f5⟩ := hf it (List.mem_cons_of_mem _ List.mem_cons_self)
    have hl := rv.length
    have D := Draws.tuple (prog := X.prog) (w := X.w) (A := X.A.in1) (I.ok.hd hc) it a hae its.toArray
    have hn : i = its.toArray.size := by
      rw [List.size_toArray]
      omega
    subst hn
    exact wpAny_pyNext_enum_endD D he ⟨hit, ht⟩ fun h' eb => ⟨rfl, I.turned (t' := s.toks) (fun b o hb q => eb b o hb q) f0 f1 f3 f4 f5⟩
  self := fun A i s Q E st h => by
    obtain ⟨⟨_, he⟩, _⟩ := st
    exact wpAny_pyIter_enum he h
theorem walk_enumT {K : PySem.W.Frag} {a : Addr} {xs : List V} : Walk (IteT K a) xs.length (fun H => SqT K H a xs) (YPair (fun i => some (.int (i : Nat))) (fun i => xs[i]?)) := by
  refine ⟨fun i _ hi q => ⟨xs, xs[i], q, by simp [hi]⟩, fun _ q => ⟨xs, q, rfl⟩, fun i H v H' _ q y => ?_⟩
  obtain ⟨T, x, h1, h2, h3, h4⟩ := y
  exact ⟨T, .int (i : Nat), x, h1, h2, h3, rfl, h4 xs q⟩
section
variable {X : Cx} {m : Mo} {F H F' H' : Hp} {σ : L2.St} {δ : Ev}
theorem wk_pairs {J : It} {n : Nat} {G : Hp → Prop} {f g : Nat → Option V} {ds : List PyData} (hw : Walk J n G (YPair f g)) (hn : ds.length = n) (hG : ∀ H, Same F H → G H)
    (hd : ∀ i x y, f i = some x → g i = some y → ∃ d e, ds[i]? = some (.tuple [d, e]) ∧ RP X F x d ∧ RP X F y e) : WkD X true F ds J := by
  subst hn
  refine ⟨_, _, hw, hG, fun i F1 H1 v H2 hi s1 s2 y => ?_⟩
  obtain ⟨T, x, z, rfl, nT, rfl, e1, e2⟩ := y
  obtain ⟨d, e, e3, r1, r2⟩ := hd i x z e1 e2
  exact ⟨upd F1 T (.tup [x, z]), _, e3, .alloc s2 nT, T, [x, z], [d, e], rfl, upd_same, rfl, (RpA.cons r1 (.cons r2 .nil)).mono (s1.trans (same_upd (s2.free nT)))⟩
theorem enm_get {ds : List PyData} {i : Nat} {d : PyData} (h : ds[i]? = some d) : (ds.mapIdx fun k x => PyData.tuple [.int k, x])[i]? = some (.tuple [.int (i : Nat), d]) := by
  rw [List.getElem?_mapIdx, h]
  rfl
theorem i_enm {elts : List Expr} {kk : Nat} {tpos : Pos} {e : Expr} {c : DE} {p pos : Pos} (hg : Gl X "enumerate") (hm : X.mg "enumerate" = none) (h1 : PE X e (T X m c)) (hs : starEach [e] X.env = [(false, eval e X.env)]) :
    PI X (.Tuple elts kk tpos) (.Call (.Name "enumerate" p) [e] [] pos) (TIt X m (.enm c)) := by
  refine ⟨fun pins s σ H R I ⟨F, δ, E, h⟩ => ?_⟩
  have h2 : T X m c σ H fun v H1 => (∃ a xs, v = .ref a ∧ SqL X.K H1 a xs ∧ R (Ite X.K a) H1) ∨ ∃ a xs, v = .ref a ∧ SqT X.K H1 a xs ∧ R (IteT X.K a) H1 := by
    refine T.oneI E h fun d v F1 H1 x E1 r hq => ?_
    cases r with
    | @lst a vs ds ha ra =>
      refine .inl ⟨a, vs, rfl, SqL.of (E1.sub _ _ ha), hq _ F1 H1 (.refl E1.sub) (wk_pairs walk_enum ?_ (fun H s => SqL.of (s _ _ ha)) fun i x y e1 e2 => ?_)⟩
      · rw [List.length_mapIdx, ra.length]
      · cases e1
        obtain ⟨d, e3, r3⟩ := ra.get' e2
        exact ⟨_, d, enm_get e3, .int _, r3⟩
    | @tup a vs ds ha ra =>
      refine .inr ⟨a, vs, rfl, (ha.mono E1.sub).sq, hq _ F1 H1 (.refl E1.sub) (wk_pairs walk_enumT ?_ (fun H s => (ha.mono s).sq) fun i x y e1 e2 => ?_)⟩
      · rw [List.length_mapIdx, ra.length]
      · cases e1
        obtain ⟨d, e3, r3⟩ := ra.get' e2
        exact ⟨_, d, enm_get e3, .int _, r3⟩
    | _ => exact (show False from hq).elim
  refine Call_ (ld_blt I hg hm boot_enumerate (PyProof.Rows.callWith_type1 (args_cons (thn (h1.run pins s σ H _ I h2) fun u s1 ⟨x, H1, I1, r1, q1⟩ => args_nil ?_) hs) hs rfl))
  rcases q1 with ⟨a, xs, rfl, hq, q⟩ | ⟨a, xs, rfl, hq, q⟩
  · cases r1
    obtain ⟨its, rv, p', hz⟩ := I1.list hq
    refine call_enumerate_list p'.isList fun h' he hit hsz hk => wpAny_pyIter_enum he ?_
    refine ⟨s1.heap.objs.size + 1, [s1.heap.objs.size + 1, s1.heap.objs.size], _, _, H1, rfl, I1.kept (t' := s1.toks) hk, turn_enum a (s1.heap.objs.size + 1) s1.heap.objs.size, ⟨⟨.none, he⟩, hit, Nat.succ_ne_self _⟩, fun b hb => ?_, q⟩
    have hle : s1.heap.objs.size ≤ b := by
      rcases List.mem_cons.mp hb with z | z
      · rw [z]
        exact Nat.le_succ _
      · rw [List.mem_singleton.mp z]
        exact Nat.le_refl _
    exact I1.fpOk hle (I1.hok.fresh hle)
  · cases r1
    obtain ⟨its, rv, p', hz⟩ := I1.tuple hq
    have la : a < s1.heap.objs.size := by
      obtain ⟨o, ho, _⟩ := id p'
      exact Heap.lt_size ho
    refine call_enum_tup (show s1.heap.IsTuple a its.toArray from p') fun h' he hit hk => wpAny_pyIter_enum he ?_
    refine ⟨s1.heap.objs.size + 1, [s1.heap.objs.size + 1, s1.heap.objs.size], _, _, H1, rfl, I1.kept (t' := s1.toks) hk, turn_enumT a (s1.heap.objs.size + 1) s1.heap.objs.size (Nat.ne_of_lt la) (Nat.ne_of_lt (Nat.lt_succ_of_lt la)), ⟨⟨.none, he⟩, hit, Nat.succ_ne_self _⟩, fun b hb => ?_, q⟩
    have hle : s1.heap.objs.size ≤ b := by
      rcases List.mem_cons.mp hb with z | z
      · rw [z]
        exact Nat.le_succ _
      · rw [List.mem_singleton.mp z]
        exact Nat.le_refl _
    exact I1.fpOk hle (I1.hok.fresh hle)
end
end Rh

set_option Elab.async false
set_option linter.all false
set_option maxRecDepth 100000
set_option maxHeartbeats 1000000
/-! sum, max; built-ins of one value all together; own lists read. -/
namespace Rh
open PySem PySem.Spec PyProof.Rows L2
section
variable {X : Cx} {m : Mo} {F H F' H' : Hp} {σ : L2.St} {δ : Ev}
theorem preSum_take (a : List Int) : ∀ n, n ≤ a.length → preSum (fun i => a.getD i 0) n = (a.take n).sum
  | 0, _ => rfl
  | n + 1, h => by
    have ih := preSum_take a n (by omega)
    have e : a.take (n + 1) = a.take n ++ [a.getD n 0] := by
      rw [List.take_add_one, List.getElem?_eq_getElem (by omega), List.getD_eq_getElem?_getD, List.getElem?_eq_getElem (by omega)]
      rfl
    rw [e, List.sum_append]
    show preSum _ n + _ = _
    rw [ih]
    simp
theorem sum_bound : ∀ (a : List Int), (∀ x ∈ a, -1000000 ≤ x ∧ x ≤ 1000000) → -(1000000 * (a.length : Int)) ≤ a.sum ∧ a.sum ≤ 1000000 * a.length
  | [], _ => by simp
  | x :: r, h => by
    have h1 := h x List.mem_cons_self
    have h2 := sum_bound r fun y hy => h y (List.mem_cons_of_mem _ hy)
    rw [List.sum_cons, List.length_cons]
    push_cast
    omega
theorem sum_ok (hc : X.calm = true) : CallR X (.builtin "sum") (rC1 X (bi1D .sum)) := by
  intro pins s σ H xs us Q I r ⟨F, x, d, d', ex, sF, hx, e, q⟩
  subst ex
  obtain ⟨u, rfl, rx⟩ := vals1 r
  unfold bi1D at e
  split at e <;> first | (rename_i h; cases h; done) | skip
  all_goals first | (cases e; done) | skip
  rename_i ds _
  obtain ⟨ns, en, e⟩ := Option.bind_eq_some_iff.mp e
  by_cases hs : (ns.all small && decide (ns.length ≤ lim)) = true
  · rw [if_pos hs] at e
    cases e
    rw [Bool.and_eq_true] at hs
    have hb : ∀ x ∈ ns, -1000000 ≤ x ∧ x ≤ 1000000 := fun x hx => of_decide_eq_true (List.all_eq_true.mp hs.1 x hx)
    have hln : ns.length ≤ 1000000 := of_decide_eq_true hs.2
    cases hx with
    | @tup a vs _ ha ra =>
      cases rx
      have z := ra.ints en
      subst z
      obtain ⟨its, rv, ht, hz⟩ := I.tuple (ha.mono sF).sq
      have hl : its.length = ns.length := by rw [← rv.length, List.length_map]
      have la : a < s.heap.objs.size := by
        obtain ⟨o, ho, _⟩ := id ht
        exact Heap.lt_size ho
      have hi : IntsAre its ns := Vals.ints rv
      have W := Walks.tuple (prog := X.prog) (w := X.w) (A := X.A.in1) (I.ok.hd hc) s.heap.objs.size a (Nat.ne_of_lt la) its.toArray
      refine PySem.call_sum_walk (wpAny_pyIter_tuple (show s.heap.IsTuple a its.toArray from ht) ⟨s.heap.objs.size, _, _, _, _, _, fun i => ns.getD i 0, rfl, W, ⟨⟨_, Heap.get?_push_size _ rfl, rfl, rfl⟩, Heap.IsTuple.at ht fun o e => Heap.get?_push_of_some _ e⟩, fun b hb => ?_, fun i v hv => ?_, fun j hj => ?_, fun h' tk t' k => ?_⟩)
      · show b < (s.heap.push _).objs.size
        rw [Heap.size_push]
        have e' : b = s.heap.objs.size ∨ b = a := by simpa using hb
        rcases e' with e' | e'
        · rw [e']
          exact Nat.lt_succ_self _
        · rw [e']
          exact Nat.lt_succ_of_lt la
      · have hv' : its[i]? = some v := by simpa using hv
        have hil : i < ns.length := by
          rw [← hl]
          exact (List.getElem?_eq_some_iff.mp hv').1
        obtain ⟨w1, e1, e2⟩ := rv.get (i := i) (x := .int (ns.getD i 0)) (by rw [List.getElem?_map, List.getD_eq_getElem?_getD, List.getElem?_eq_getElem hil]; rfl)
        rw [hv'] at e1
        cases e1
        exact e2
      · rw [List.size_toArray, hl] at hj
        have z := hb (ns.getD j 0) (by rw [List.getD_eq_getElem?_getD, List.getElem?_eq_getElem hj]; exact List.getElem_mem hj)
        have z2 := sum_bound (ns.take (j + 1)) fun x hx => hb x (List.mem_of_mem_take hx)
        rw [preSum_take ns (j + 1) hj]
        rw [List.length_take] at z2
        have z3 : min (j + 1) ns.length ≤ ns.length := Nat.min_le_right _ _
        generalize min (j + 1) ns.length = mm at z2 z3
        generalize (ns.take (j + 1)).sum = ss at z2 ⊢
        refine ⟨⟨?_, ?_⟩, ?_, ?_⟩
        · show -(2 ^ 63) ≤ ns.getD j 0
          omega
        · show ns.getD j 0 < 2 ^ 63
          omega
        · omega
        · omega
      · rw [List.size_toArray, hl, preSum_take ns ns.length (Nat.le_refl _), List.take_length]
        refine ⟨.int ns.sum, H, I.kept fun b o e => k b o (fun y => ?_) (Heap.get?_push_of_some _ e), ⟨_, rfl⟩, q _ F H (.refl sF) (.int _)⟩
        have y2 := List.mem_singleton.mp y
        have y3 := Heap.lt_size e
        rw [y2] at y3
        exact absurd y3 (Nat.lt_irrefl _)
  · rw [if_neg hs] at e
    cases e
theorem maxI_spec : ∀ (r : List Int) (x : Int), (r.foldl max x = x ∨ r.foldl max x ∈ r) ∧ x ≤ r.foldl max x ∧ ∀ y ∈ r, y ≤ r.foldl max x
  | [], x => ⟨.inl rfl, Int.le_refl _, fun y hy => by cases hy⟩
  | z :: r, x => by
    obtain ⟨h1, h2, h3⟩ := maxI_spec r (max x z)
    have e : (z :: r).foldl max x = r.foldl max (max x z) := rfl
    rw [e]
    refine ⟨?_, by omega, fun y hy => ?_⟩
    · rcases h1 with h1 | h1
      · rw [h1]
        by_cases hxz : x ≤ z
        · right
          rw [show max x z = z by omega]
          exact List.mem_cons_self
        · left
          omega
      · exact .inr (List.mem_cons_of_mem _ h1)
    · rcases List.mem_cons.mp hy with e | hy
      · subst e
        omega
      · exact h3 y hy
theorem maxI_eq {ns : List Int} {M : Int} (h0 : ns ≠ []) (h1 : M ∈ ns) (h2 : ∀ y ∈ ns, y ≤ M) : M = maxI ns := by
  cases ns with
  | nil => exact absurd rfl h0
  | cons x r =>
    obtain ⟨z1, z2, z3⟩ := maxI_spec r x
    show M = r.foldl max x
    have a1 : M ≤ r.foldl max x := by
      rcases List.mem_cons.mp h1 with e | hM
      · rw [e]
        exact z2
      · exact z3 M hM
    have a2 : r.foldl max x ≤ M := by
      rcases z1 with z1 | z1
      · rw [z1]
        exact h2 x List.mem_cons_self
      · exact h2 _ (List.mem_cons_of_mem _ z1)
    omega
theorem max_ok (hc : X.calm = true) : CallR X (.builtin "max") (rC1 X (bi1D .max)) := by
  intro pins s σ H xs us Q I r ⟨F, x, d, d', ex, sF, hx, e, q⟩
  subst ex
  unfold bi1D at e
  split at e <;> first | (rename_i h; cases h; done) | skip
  all_goals first | (cases e; done) | skip
  rename_i ds _
  obtain ⟨ns, en, e⟩ := Option.bind_eq_some_iff.mp e
  by_cases hs : ns.isEmpty = true
  · rw [if_pos hs] at e
    cases e
  · rw [if_neg hs] at e
    cases e
    cases hx with
    | @lst a vs _ ha ra =>
      have z := ra.ints en
      subst z
      have h0 : ns ≠ [] := fun z => hs (by rw [z]; rfl)
      refine cr_max hc pins s σ H _ us Q I r ⟨a, ns, rfl, SqL.of (sF _ _ ha), List.length_pos_iff.mpr h0, fun M h1 h2 => ?_⟩
      rw [maxI_eq h0 h1 h2]
      exact q _ F H (.refl sF) (.int _)
/-! ### all built-ins of one value -/
def biName : Bi → Str
  | .len => "len" | .sorted => "sorted" | .tuple => "tuple" | .list => "list" | .min => "min" | .max => "max" | .sum => "sum" | .lenSet => "" | .sortedSet => ""
def biOk : Bi → Bool
  | .lenSet => false
  | .sortedSet => false
  | _ => true
theorem e_bi1 {f : Bi} {x : Str} {e : Expr} {c : DE} {p pos : Pos} (hc : X.calm = true) (hu : X.A.units + 100 < cLine) (hf : biOk f = true) (hx : x = biName f) (hg : Gl X x) (hm : X.mg x = none) (h1 : PE X e (T X m c)) (hs : starEach [e] X.env = (false, eval e X.env) :: starEach [] X.env) :
    PE X (.Call (.Name x p) [e] [] pos) (T X m (.bi1 f c)) := by
  have ha : PA X [e] (TL X m (.cons c .nil)) := a_cons h1 a_nil hs
  have hpl : (backTo pos (starEach [] X.env)).any (·.1) = false := rfl
  subst hx
  cases f with
  | len => exact (pe_callB len_ok hg hm (by decide) ha (by decide) (by decide) hs hpl).imp fun σ H Q ⟨F, δ, E, h⟩ => TL.one1 E h
  | sorted => exact (pe_callB (sorted_ok hc hu) hg hm (by decide) ha (by decide) (by decide) hs hpl).imp fun σ H Q ⟨F, δ, E, h⟩ => TL.one1 E h
  | tuple => exact (pe_callTy tuple_ok hg hm (by decide) ha (by decide) (by decide) hs hpl).imp fun σ H Q ⟨F, δ, E, h⟩ => TL.one1 E h
  | list => exact (pe_callTy list_ok hg hm (by decide) ha (by decide) (by decide) hs hpl).imp fun σ H Q ⟨F, δ, E, h⟩ => TL.one1 E h
  | min => exact (pe_callB (min_ok hc hu) hg hm (by decide) ha (by decide) (by decide) hs hpl).imp fun σ H Q ⟨F, δ, E, h⟩ => TL.one1 E h
  | max => exact (pe_callB (max_ok hc) hg hm (by decide) ha (by decide) (by decide) hs hpl).imp fun σ H Q ⟨F, δ, E, h⟩ => TL.one1 E h
  | sum => exact (pe_callB (sum_ok hc) hg hm (by decide) ha (by decide) (by decide) hs hpl).imp fun σ H Q ⟨F, δ, E, h⟩ => TL.one1 E h
  | lenSet => cases hf
  | sortedSet => cases hf
theorem e_mn2 {a b : Expr} {ca cb : DE} {p pos : Pos} (hc : X.calm = true) (hu : X.A.units + 100 < cLine) (hg : Gl X "min") (hm : X.mg "min" = none) (h1 : PE X a (T X m ca)) (h2 : PE X b (T X m cb)) (hs : starEach [a, b] X.env = (false, eval a X.env) :: starEach [b] X.env) (hs2 : starEach [b] X.env = (false, eval b X.env) :: starEach [] X.env)
    (hpl : (backTo pos (starEach [b] X.env)).any (·.1) = false) : PE X (.Call (.Name "min" p) [a, b] [] pos) (T X m (.mn2 ca cb)) := by
  refine (pe_callB (mn2_ok hc hu) hg hm (by decide) (pa_cons h1 (pa_cons h2 pa_nil hs2) hs) (by decide) (by decide) hs hpl).imp fun σ H Q ⟨F, δ, E, h⟩ => ?_
  refine T.two E h fun da va db vb F1 H1 x E1 ra rb hq => ?_
  obtain ⟨d, e, q⟩ := ofO_some hq
  exact ⟨F1, va, vb, da, db, d, rfl, E1.sub, ra, rb, e, q⟩
/-! ### own lists read -/
theorem e_lenO {i : Nat} {x : Str} {np p pos : Pos} (hN : X.N[i]? = some x) (hv : Vis X.env.scope x) (hd : (x == ("__debug__" : Str)) = false) (hcd : (x == ("__classdict__" : Str)) = false) (hg : Gl X "len") (hm : X.mg "len" = none)
    (hs : starEach [.Name x np] X.env = (false, eval (.Name x np) X.env) :: starEach [] X.env) : PE X (.Call (.Name "len" p) [.Name x np] [] pos) (T X m (.lenO i)) := by
  refine (pe_callB call_len hg hm (by decide) (pa_cons (pe_var hN hv hd hcd) pa_nil hs) (by decide) (by decide) hs rfl).imp fun σ H Q ⟨F, δ, E, h⟩ => ?_
  have h' : Rz X m σ F H (match δ[i]? with
    | some (some (.own (.list xs))) => .ok (.int xs.length)
    | _ => .stuck) Q := h
  split at h'
  · rename_i ds e
    obtain ⟨q, ep, vs, hp, r⟩ := own_at E e
    refine ⟨.ref q, ep, .ref q, vs.length, rfl, .inl ⟨vs, SqL.of hp, rfl⟩, ?_⟩
    rw [r.length]
    exact h' _ F H (.refl E.sub) (.int _)
  · exact h'.elim
/-- d[k], k a tuple -/
def rIxN (X : Cx) : R2 := fun x y H Q => ∃ (F : Hp) (a b : Addr) (xs : List KX) (kvs : List (PyData × PyData)) (k : NestedKey) (d : PyData), x = .ref a ∧ y = .ref b ∧ Same F H ∧ H a = some (.ext (DN X.prog X.w a xs)) ∧ RpD X.prog X.w X.K F xs kvs ∧ RP X F (.ref b) k.data ∧ k.depth ≤ 8 ∧ dlook kvs k.data = some d ∧ ∀ v, RP X F v d → Q v H
theorem ix_keyed (hu : X.A.units + 100 < cLine) : IxR X (rIxN X) := by
  intro va sl pins s σ H x y v u Q I rx ry ⟨F, a, b, xs, kvs, k, d, ex, ey, sF, ha, ra, rb, dk, e, q⟩ hs
  subst ex ey
  cases rx
  cases ry
  obtain ⟨hm, lo, hz⟩ := DN.ofH I sF ha ra
  rcases ra.look k with ⟨z, _⟩ | ⟨d2, b2, u2, v2, e1, e2, r1, r2⟩
  · rw [z] at e
    cases e
  · rw [e1] at e
    cases e
    refine tail_any (ops := [.ref a, .ref b]) hm.typeIs PySem.F.slot_dict_getitem.lookup ?_ hs
    refine wpAny_getItem_heap (knd := nestedKind X.prog X.w) (show X.A.in1.units + 8 < cLine from ?_) ⟨nested_of I sF k _ _ rb rfl, dk⟩ hm e2 ?_
    · have z : X.A.in1.units = X.A.units + 1 := rfl
      omega
    · exact ⟨v2, H, I.tok _, r1, q v2 r2⟩
theorem ix_or {r1 r2 : R2} (h1 : IxR X r1) (h2 : IxR X r2) : IxR X fun x y H Q => r1 x y H Q ∨ r2 x y H Q := by
  intro va sl pins s σ H x y v u Q I rx ry h hs
  rcases h with h | h
  · exact h1 va sl pins s σ H x y v u Q I rx ry h hs
  · exact h2 va sl pins s σ H x y v u Q I rx ry h hs
theorem key_ref {v : V} {d : PyData} (r : RP X F v d) (h : isKey d = true) : ∃ b k, v = .ref b ∧ NestedKey.data k = d ∧ k.depth ≤ 8 := by
  obtain ⟨k, ek, dk⟩ := isKey_some h
  subst ek
  cases k with
  | tup ks =>
    cases r
    exact ⟨_, _, rfl, rfl, dk⟩
  | _ => cases h
theorem e_ixO {i : Nat} {x : Str} {k : Expr} {c : DE} {np pos : Pos} (hu : X.A.units + 100 < cLine) (hN : X.N[i]? = some x) (hv : Vis X.env.scope x) (hd : (x == ("__debug__" : Str)) = false) (hcd : (x == ("__classdict__" : Str)) = false) (h1 : PE X k (T X m c)) (hs : PlainIx k) :
    PE X (.Subscript (.Name x np) k pos) (T X m (.ixO i c)) := by
  refine (pe_ix (ix_or ix_list (ix_keyed hu)) (pe_var hN hv hd hcd) h1 hs).imp fun σ H Q ⟨F, δ, E, h⟩ => ?_
  have h' : Rz X m σ F H (match δ[i]? with
    | some (some (.own (.list xs))) => (ev m.g m.f c δ).bind fun y => (match y with
      | .int k => .ofO (L2.atI xs k)
      | _ => .stuck)
    | some (some (.own (.dict kvs))) => (ev m.g m.f c δ).bind fun k => if isKey k then .ofO (dlook kvs k) else .stuck
    | _ => .stuck) Q := h
  split at h'
  · rename_i ds e
    obtain ⟨p, ep, vs, hp, r⟩ := own_at E e
    refine ⟨.ref p, ep, T.one E h' fun d v F1 H1 x1 E1 rd _ hq => ?_⟩
    cases rd with
    | int k =>
      obtain ⟨d2, e2, q⟩ := ofO_some (o := L2.atI ds k) hq
      obtain ⟨w1, e3, r3⟩ := (r.mono x1.ff).atI e2
      exact .inl ⟨p, vs, k, w1, rfl, rfl, SqL.of (x1.hh _ _ hp), e3, q _ F1 H1 (.refl E1.sub) r3⟩
    | _ => exact (show False from hq).elim
  · rename_i kvs e
    obtain ⟨p, ep, xs, hp, r⟩ := own_at E e
    refine ⟨.ref p, ep, T.one E h' fun d v F1 H1 x1 E1 rd _ hq => ?_⟩
    by_cases hk : isKey d = true
    · rw [if_pos hk] at hq
      obtain ⟨d2, e2, q⟩ := ofO_some hq
      obtain ⟨b, k, rfl, ek, dk⟩ := key_ref rd hk
      subst ek
      exact .inr ⟨F1, p, b, xs, kvs, k, d2, rfl, rfl, E1.sub, x1.hh _ _ hp, r.mono x1.ff, rd, dk, e2, fun v rv => q v F1 H1 (.refl E1.sub) rv⟩
    · rw [if_neg hk] at hq
      exact hq.elim
  · exact h'.elim
theorem e_truO {i : Nat} {x : Str} {np : Pos} (hN : X.N[i]? = some x) (hv : Vis X.env.scope x) (hd : (x == ("__debug__" : Str)) = false) (hcd : (x == ("__classdict__" : Str)) = false) : PT X (.Name x np) (TB X m (.truO i)) := by
  refine (pt_truth (pe_var hN hv hd hcd) fun w => rfl).imp fun σ H Q ⟨F, δ, E, h⟩ => ?_
  have h' := h
  unfold evt at h'
  simp only [ev] at h'
  split at h'
  · rename_i ds e
    obtain ⟨p, ep, vs, hp, r⟩ := own_at E e
    refine ⟨.ref p, ep, !ds.isEmpty, .inl ⟨vs, SqL.of hp, ?_⟩, h' F H (.refl E.sub)⟩
    cases r <;> rfl
  · exact h'.elim
end
end Rh

set_option Elab.async false
set_option linter.all false
set_option maxRecDepth 100000
set_option maxHeartbeats 1000000
/-! len(set(t)), xs.index(k), zip, x = x + e of an own list. -/
namespace Rh
open PySem PySem.Spec PyProof.Rows L2
theorem difs_mem : ∀ (ns : List Int) (k : Int), k ∈ difs ns ↔ k ∈ ns
  | [], k => Iff.rfl
  | x :: r, k => by
    unfold difs
    have ih := difs_mem r k
    by_cases h : x ∈ r
    · rw [if_pos h, ih, List.mem_cons]
      constructor
      · exact .inr
      · rintro (z | z)
        · rw [z]; exact h
        · exact z
    · rw [if_neg h, List.mem_cons, List.mem_cons, ih]
theorem difs_nodup : ∀ ns : List Int, (difs ns).Nodup
  | [] => List.nodup_nil
  | x :: r => by
    unfold difs
    by_cases h : x ∈ r
    · rw [if_pos h]; exact difs_nodup r
    · rw [if_neg h, List.nodup_cons]
      exact ⟨fun z => h ((difs_mem r x).mp z), difs_nodup r⟩
theorem difs_count {l ns : List Int} (hn : l.Nodup) (h : ∀ k, k ∈ l ↔ k ∈ ns) : l.length = (difs ns).length :=
  ((List.perm_ext_iff_of_nodup hn (difs_nodup ns)).mpr fun k => (h k).trans (difs_mem ns k).symm).length_eq
section
variable {X : Cx} {m : Mo} {F H F' H' : Hp} {σ : L2.St} {δ : Ev}
def tLenS (K : PySem.W.Frag) (ta : TE) : TE := fun σ H Q => ta σ H fun x H1 => ∃ (l : Addr) (ns : List Int), x = .ref l ∧ SqT K H1 l (ns.map V.int) ∧ ns.length ≤ 1000 ∧ Q (.int (difs ns).length) H1
theorem pe_lenS {a : Expr} {ta : TE} {p p2 q pos : Pos} (hc : X.calm = true) (hg : Gl X "len") (hm : X.mg "len" = none) (hg2 : Gl X "set") (hm2 : X.mg "set" = none) (ha : PE X a ta)
    (na : starEach [a] X.env = (false, eval a X.env) :: starEach [] X.env) : PE X (.Call (.Name "len" p) [.Call (.Name "set" p2) [a] [] q] [] pos) (tLenS X.K ta) := by
  constructor
  intro pins s σ H Q I h
  refine Call_ (ld_blt I hg hm boot_len (callWith_builtin1 (args_cons ?_ rfl) rfl rfl))
  refine Call_ (ld_blt I hg2 hm2 PyProof.Rows.boot_set (PyProof.Rows.callWith_type1 (args_cons (thn (ha.run pins s σ H _ I h) fun v s1 ⟨x, H1, I1, r1, q1⟩ => args_nil ?_) na) na rfl))
  obtain ⟨l, ns, rfl, hq, hl, q2⟩ := q1
  cases r1
  obtain ⟨its, r, pl, _⟩ := I1.tuple hq
  have hi : IntsAre its ns := Vals.ints r
  refine call_set_tupI ns (I1.ok.hd hc) (show s1.heap.IsTuple l its.toArray from pl) (by simpa using hi) (by unfold scanBound; omega) fun h' tk c R _ hk => ?_
  refine args_nil ?_
  obtain ⟨o, es, ep, t, ho, hex, hd, _, nd, mem, _, hf, hn, _⟩ := R
  have I2 : Inv X pins σ H1 { s1 with heap := h', toks := tk } := I1.kept hk
  have cnt : es.size = (difs ns).length := by
    have z := difs_count (ns := ns) nd fun k => by
      rw [← mem k, decide_eq_true_eq]
    rw [List.length_map, Array.length_toList] at z
    exact z
  have few : (difs ns).length ≤ 1000 := by
    have z : ∀ l : List Int, (difs l).length ≤ l.length := fun l => by
      induction l with
      | nil => exact Nat.le_refl _
      | cons x r ih =>
        unfold difs
        split
        · rw [List.length_cons]; omega
        · rw [List.length_cons, List.length_cons]; omega
    have := z ns
    omega
  exact call_len_set ho hex hd hf (by rw [cnt]; omega) ⟨.int (difs ns).length, H1, I2.tok _, ⟨_, by rw [cnt]⟩, q2⟩
theorem e_lenS {a : Expr} {c : DE} {p p2 q pos : Pos} (hc : X.calm = true) (hg : Gl X "len") (hm : X.mg "len" = none) (hg2 : Gl X "set") (hm2 : X.mg "set" = none) (h1 : PE X a (T X m c))
    (na : starEach [a] X.env = (false, eval a X.env) :: starEach [] X.env) : PE X (.Call (.Name "len" p) [.Call (.Name "set" p2) [a] [] q] [] pos) (T X m (.lenS c)) := by
  refine (pe_lenS hc hg hm hg2 hm2 h1 na).imp fun σ H Q ⟨F, δ, E, h⟩ => ?_
  refine T.one E h fun d v F1 H1 x1 E1 r _ hq => ?_
  obtain ⟨d2, e2, q2⟩ := ofO_some hq
  cases r with
  | @tup l vs ds hp rp =>
    obtain ⟨ns, en, e3⟩ := Option.bind_eq_some_iff.mp (show (intsD ds).bind _ = some d2 from e2)
    split at e3
    · rename_i hl
      cases e3
      have z := rp.ints en
      subst z
      exact ⟨l, ns, rfl, (hp.mono E1.sub).sq, hl, q2 _ F1 H1 (.refl E1.sub) (.int _)⟩
    · cases e3
  | _ => cases e2
/-! ### index -/
theorem posI_spec (k : Int) : ∀ (ns : List Int) (i j : Nat), posI k ns i = some j → i ≤ j ∧ ns[j - i]? = some k ∧ ∀ m, m < j - i → ∀ z, ns[m]? = some z → z ≠ k
  | [], i, j, h => by cases h
  | x :: r, i, j, h => by
    unfold posI at h
    by_cases e : x = k
    · rw [if_pos e] at h
      cases h
      refine ⟨Nat.le_refl _, by simp [e], fun m hm => by omega⟩
    · rw [if_neg e] at h
      obtain ⟨h1, h2, h3⟩ := posI_spec k r (i + 1) j h
      refine ⟨by omega, ?_, fun m hm z hz => ?_⟩
      · rw [show j - i = (j - (i + 1)) + 1 by omega]
        simpa using h2
      · cases m with
        | zero =>
          simp at hz
          rw [← hz]
          exact e
        | succ m => exact h3 m (by omega) z (by simpa using hz)
def rIdxI (K : PySem.W.Frag) : V → List V → Hp → VK → Prop := fun x xs H Q => ∃ (p : Addr) (ns : List Int) (k : Int) (j : Nat), x = .ref p ∧ xs = [.int k] ∧ SqL K H p (ns.map V.int) ∧ posI k ns 0 = some j ∧ Q (.int (j : Nat)) H
theorem flat_ints : ∀ ns : List Int, (ns.map V.int).all flatV = true
  | [] => rfl
  | _ :: r => by rw [List.map_cons, List.all_cons, flat_ints r]; rfl
theorem mt_idxI : MtR X "list.index" (rIdxI X.K) := by
  intro pins s σ H x xs v us Q I rx rs ⟨p, ns, k, j, e1, e2, hq, hp, q⟩
  obtain ⟨_, h2, h3⟩ := posI_spec k ns 0 j hp
  refine mt_index pins s σ H x xs v us Q I rx rs ⟨p, ns.map V.int, .int k, j, .int k, e1, e2, hq, rfl, flat_ints ns, ?_, ?_, fun m z' hm hz => ?_, q⟩
  · rw [List.getElem?_map, show ns[j]? = some k from by simpa using h2]
    rfl
  · simp [eqV]
  · rw [List.getElem?_map] at hz
    obtain ⟨z, e3, rfl⟩ := Option.map_eq_some_iff.mp hz
    have := h3 m (by omega) z e3
    simpa [eqV] using this
theorem e_idx {i : Nat} {x : Str} {e : Expr} {c : DE} {np apos cpos : Pos} (hN : X.N[i]? = some x) (hv : Vis X.env.scope x) (hd : (x == ("__debug__" : Str)) = false) (hcd : (x == ("__classdict__" : Str)) = false) (h1 : PE X e (T X m c))
    (hs : starEach [e] X.env = (false, eval e X.env) :: starEach [] X.env) (hline : (apos.endLine == cpos.line) = true) :
    PE X (.Call (.Attribute (.Name x np) "index" apos) [e] [] cpos) (T X m (.idx i c)) := by
  refine (pe_bm PySem.F.plainAttrs_list PySem.F.slot_list_index PySem.F.type_list_index mt_idxI (pe_var hN hv hd hcd) (pa_cons h1 pa_nil hs) rfl (by rw [hs]; rfl) hline hs rfl).imp fun σ H Q ⟨F, δ, E, h⟩ => ?_
  have h' : Rz X m σ F H (match δ[i]? with
    | some (some (.sh (.list xs))) => (ev m.g m.f c δ).bind fun y => .ofO (idxD (.list xs) y)
    | _ => .stuck) Q := h
  split at h'
  · rename_i ds ex
    obtain ⟨v, ev1, rv⟩ := E.sh i _ ex
    cases rv with
    | @lst p vs _ hp rp =>
      refine ⟨.ref p, ev1, .inl ⟨rfl, vs, SqL.of (E.sub _ _ hp)⟩, ?_⟩
      refine T.one E h' fun dy vy F1 H1 x1 E1 ry _ hq => ?_
      obtain ⟨d2, e2, q2⟩ := ofO_some hq
      cases ry with
      | int k =>
        obtain ⟨ns, en, e3⟩ := Option.bind_eq_some_iff.mp (show (intsD ds).bind _ = some d2 from e2)
        obtain ⟨j, ej, rfl⟩ := Option.map_eq_some_iff.mp e3
        have z := rp.ints en
        subst z
        exact ⟨p, ns, k, j, rfl, rfl, SqL.of (x1.hh _ _ (E.sub _ _ hp)), ej, q2 _ F1 H1 (.refl E1.sub) (.int _)⟩
      | _ => cases e2
  · exact h'.elim
/-! ### zip -/
theorem walk_zipT {K : PySem.W.Frag} {a b : Addr} {xs ys : List V} : Walk (RZ.ItzT K a b) (min xs.length ys.length) (fun H => SqT K H a xs ∧ SqT K H b ys) (YPair (fun i => xs[i]?) (fun i => ys[i]?)) := by
  refine ⟨fun i H hi q => ?_, fun H q => ⟨xs, ys, q.1, q.2, by omega⟩, fun i H v H' _ q y => ?_⟩
  · have h1 : i < xs.length := by omega
    have h2 : i < ys.length := by omega
    exact ⟨xs, ys, xs[i], ys[i], q.1, q.2, by simp [h1], by simp [h2]⟩
  · obtain ⟨T, x, z, y1, y2, y3, y4, y5⟩ := y
    exact ⟨T, x, z, y1, y2, y3, y4 xs q.1, y5 ys q.2⟩
theorem i_zp {elts : List Expr} {kk : Nat} {tpos : Pos} {e e2 : Expr} {c d : DE} {p pos : Pos} (hg : Gl X "zip") (hm : X.mg "zip" = none) (h1 : PE X e (T X m c)) (h2 : PE X e2 (T X m d))
    (hs : starEach [e, e2] X.env = (false, eval e X.env) :: starEach [e2] X.env) (hs2 : starEach [e2] X.env = (false, eval e2 X.env) :: starEach [] X.env) : PI X (.Tuple elts kk tpos) (.Call (.Name "zip" p) [e, e2] [] pos) (TIt X m (.zp c d)) := by
  refine (RZ.pi_zipA hg hm (a_cons h1 (a_cons h2 a_nil hs2) hs) hs (by rw [hs2]; rfl)).imp fun σ H Q ⟨F, δ, E, h⟩ => ?_
  have h' : RzI X true m σ F H ((evs m.g m.f (.cons c (.cons d .nil)) δ).bind fun ds => (match ds with
    | [.tuple xs, .tuple ys] => .ok ((xs.zip ys).map fun p => .tuple [p.1, p.2])
    | _ => .stuck)) Q := by
    have z : RzI X true m σ F H (evi m.g m.f (.zp c d) δ) Q := h
    simp only [evi] at z
    simp only [evs]
    cases e1 : ev m.g m.f c δ with
    | ok x =>
      rw [e1] at z
      simp only [Res.bind] at z ⊢
      cases e3 : ev m.g m.f d δ with
      | ok y =>
        rw [e3] at z
        simp only at z ⊢
        revert z
        cases x <;> cases y <;> exact fun z => z
      | err q =>
        rw [e3] at z
        exact z
      | stuck =>
        rw [e3] at z
        exact z
    | err q =>
      rw [e1] at z
      exact z
    | stuck =>
      rw [e1] at z
      exact z
  refine TL.oneI E h' fun ds vs F1 H1 x1 E1 r hq => ?_
  cases r with
  | nil => exact (show False from hq).elim
  | cons ra rr =>
    cases rr with
    | nil =>
      revert hq
      split
      · rename_i hh
        cases hh
      · exact fun z => z.elim
    | cons rb rr =>
      cases rr with
      | cons _ _ =>
        revert hq
        split
        · rename_i hh
          cases hh
        · exact fun z => z.elim
      | nil =>
        cases ra with
        | @tup a xs da ha qa =>
          cases rb with
          | @tup b ys db hb qb =>
            refine ⟨a, b, xs, ys, rfl, .inr ⟨(ha.mono E1.sub).sq, (hb.mono E1.sub).sq, ?_⟩⟩
            refine hq _ F1 H1 (.refl E1.sub) (wk_pairs (walk_zipT (xs := xs) (ys := ys)) ?_ (fun H s => ⟨(ha.mono s).sq, (hb.mono s).sq⟩) fun i x y f1 f2 => ?_)
            · rw [List.length_map, List.length_zip, qa.length, qb.length]
            · obtain ⟨d1, g1, r1⟩ := qa.get' f1
              obtain ⟨d2, g2, r2⟩ := qb.get' f2
              exact ⟨d1, d2, by rw [List.getElem?_map, List.getElem?_zip_eq_some (z := (d1, d2)).mpr ⟨g1, g2⟩]; rfl, r1, r2⟩
          | _ => exact (show False from hq).elim
        | _ => exact (show False from hq).elim
/-! ### x = x + e -/
theorem s_catO {i : Nat} {x : Str} {e : Expr} {c : DE} {np p2 p3 pos : Pos} (hN : X.N.Nodup) (hi : X.N[i]? = some x) (hx : Loc X.env.scope x) (hv : Vis X.env.scope x) (hd : (x == ("__debug__" : Str)) = false) (hcd : (x == ("__classdict__" : Str)) = false) (h1 : PE X e (T X m c)) (hf : X.fn x = true ∨ X.env.scope.names.lookup x = some .local) :
    PS X (.Assign [.Name x p3] (.BinOp (.Name x np) .Add e p2) pos) (SS X m (.catO i c)) := by
  refine (ps_set hN hi hx (pe_op (pos := p2) op_cat (pe_var hi hv hd hcd) h1) rfl hf).imp fun D σ H ⟨F, δ, E, h⟩ => ?_
  obtain ⟨ds, ei, h2⟩ := slot_own (X := X) h
  obtain ⟨p, ep, xs, hp, r⟩ := own_at E ei
  refine ⟨.ref p, ep, ?_⟩
  refine T.st E h2 fun d v F1 H1 x1 E1 rv hq => ?_
  cases rv with
  | @lst b ys es hb rb =>
    have hq : RzS X m F1 D (if ds.length + es.length ≤ lim then Out.nx (slot δ i (.own (.list (ds ++ es)))) else Out.stuck) := hq
    by_cases hl : ds.length + es.length ≤ lim
    · rw [if_pos hl] at hq
      refine ⟨p, b, xs, ys, rfl, rfl, x1.hh _ _ hp, E1.sub _ _ hb, ?_, fun a na => ?_⟩
      · rw [r.length, rb.length]
        exact lim_line hl
      · have nf : F1 a = none := E1.sub.free na
        have n0 : m.H0 a = none := E1.old.free na
        have E2 : En X m F1 (upd H1 a (.lst (xs ++ ys))) σ δ := E1.updO nf n0 (E1.fresh na)
        exact hq _ F1 _ (E2.setOwn nf n0 ⟨_, upd_same, (r.mono x1.ff).append rb⟩ fun j e _ hj => E1.fresh na j e hj) .refl
    · rw [if_neg hl] at hq
      exact hq.elim
  | _ => exact (show False from hq).elim
end
end Rh

set_option Elab.async false
set_option linter.all false
set_option maxRecDepth 100000
set_option maxHeartbeats 1000000
/-! try, and except clauses that ask what an error is. -/
namespace Rh
open PySem PySem.Spec PyProof.Rows L2
section
variable {X : Cx} {m : Mo} {F H F' H' : Hp} {σ : L2.St} {δ : Ev}
theorem En.same (E : En X m F H σ δ) (s : Same H H') : En X m F H' σ δ := E.ext ⟨Same.refl _, E.sub.trans s, s, fun _ _ h => .inl h⟩
theorem En.withW (E : En X m F H σ δ) (W : WX) : En X { m with W := W } F H σ δ := ⟨E.sub, E.old, E.len, E.sh, E.own, E.apart⟩
theorem En.ofW {W : WX} (E : En X { m with W := W } F H σ δ) : En X m F H σ δ := ⟨E.sub, E.old, E.len, E.sh, E.own, E.apart⟩
/-- a slot that the code does not speak of -/
theorem En.junk (E : En X m F H σ δ) (i : Nat) (v : Option V) : En X m F H (σ.set i v) (δ.set i none) := by
  refine ⟨E.sub, E.old, by rw [List.length_set, List.length_set, E.len], fun j d h => ?_, fun j d h => ?_, fun j k d e p hjk h1 h2 h3 => ?_⟩
  · rcases set_at h with ⟨_, _, z⟩ | ⟨n, z⟩
    · cases z
    · rw [set_other n]
      exact E.sh j d z
  · rcases set_at h with ⟨_, _, z⟩ | ⟨n, z⟩
    · cases z
    · rw [set_other n]
      exact E.own j d z
  · rcases set_at h1 with ⟨_, _, z⟩ | ⟨n1, z1⟩
    · cases z
    · rcases set_at h2 with ⟨_, _, z⟩ | ⟨n2, z2⟩
      · cases z
      · rw [set_other n1] at h3
        rw [set_other n2]
        exact E.apart j k d e p hjk z1 z2 h3
/-! ### what a try holds -/
def RzT (X : Wd) (m : Mo) (σ : L2.St) (F H : Hp) (D : Ends) : Res (Option PyData) → Prop
  | .ok (some d) => ∀ v F' H', Ext F H F' H' → RP X F' v d → D.rt v H'
  | .ok none => ∀ F' H', Ext F H F' H' → D.nx σ H'
  | .err x => ∃ C, m.C x = some C ∧ ∀ H', Same H H' → m.W (.ref C) none σ H'
  | .stuck => False
def TTb (X : Wd) (m : Mo) (b : TrB) : TS := fun D σ H => ∃ F δ, En X m F H σ δ ∧ RzT X m σ F H D (evT m.g m.f b δ)
theorem RzT.on {D : Ends} {r : Res (Option PyData)} {F1 H1 : Hp} (x : Ext F H F1 H1) (h : RzT X m σ F H D r) : RzT X m σ F1 H1 D r := by
  cases r with
  | ok o =>
    cases o with
    | none => exact fun F2 H2 x2 => h F2 H2 (x.trans x2)
    | some d => exact fun v F2 H2 x2 => h v F2 H2 (x.trans x2)
  | err z => exact err_on x.hh h
  | stuck => exact h
theorem b_ret {e : Expr} {c : DE} {pos : Pos} (h1 : PE X e (T X m c)) : PSs X [.Return (some e) pos] (TTb X m (.ret c)) := by
  refine (pss_one (ps_ret h1)).imp fun D σ H ⟨F, δ, E, h⟩ => ⟨F, δ, E, ?_⟩
  have h' : RzT X m σ F H D ((ev m.g m.f c δ).bind fun d => .ok (some d)) := h
  cases e1 : ev m.g m.f c δ with
  | ok d => rw [e1] at h'; exact h'
  | err z => rw [e1] at h'; exact h'
  | stuck => rw [e1] at h'; exact h'
theorem b_expr {e : Expr} {c : DE} {pos : Pos} (h1 : PE X e (T X m c)) (hs : swapsWith e none pos.line X.env = pure false) : PSs X [.Expr e pos] (TTb X m (.expr c)) := by
  refine (pss_one (ps_expr h1 hs)).imp fun D σ H ⟨F, δ, E, h⟩ => ⟨F, δ, E, ?_⟩
  have h' : RzT X m σ F H D ((ev m.g m.f c δ).bind fun _ => .ok none) := h
  cases e1 : ev m.g m.f c δ with
  | ok d =>
    rw [e1] at h'
    exact fun v F1 H1 x _ => h' F1 H1 x
  | err z => rw [e1] at h'; exact h'
  | stuck => rw [e1] at h'; exact h'
theorem b_ite {t : Expr} {a b : List Stmt} {c : DE} {ca cb : TrB} {pos : Pos} (h1 : PT X t (TB X m c)) (h2 : PSs X a (TTb X m ca)) (h3 : PSs X b (TTb X m cb)) : PSs X [.If t a b pos] (TTb X m (.ite c ca cb)) := by
  refine (pss_one (ps_if h1 h2 h3)).imp fun D σ H ⟨F, δ, E, h⟩ => ⟨F, δ, E, ?_⟩
  have h' : RzT X m σ F H D ((ev m.g m.f c δ).bind fun x => (match truth x with
    | some true => evT m.g m.f ca δ
    | some false => evT m.g m.f cb δ
    | none => .stuck)) := h
  unfold evt
  cases e1 : ev m.g m.f c δ with
  | err z => rw [e1] at h'; exact h'
  | stuck => rw [e1] at h'; exact h'
  | ok x =>
    rw [e1] at h'
    show RzB X m σ F H (.ofO (truth x)) _
    have h2 : RzT X m σ F H D (match truth x with
      | some true => evT m.g m.f ca δ
      | some false => evT m.g m.f cb δ
      | none => .stuck) := h'
    cases e2 : truth x with
    | none => rw [e2] at h2; exact h2
    | some k =>
      rw [e2] at h2
      intro F1 H1 x1
      cases k with
      | true => exact ⟨F1, δ, E.ext x1, h2.on x1⟩
      | false => exact ⟨F1, δ, E.ext x1, h2.on x1⟩
end
/-! ### what an except clause reckons -/
section
variable {X Y : Cx} {m : Mo} {F H F' H' : Hp} {σ : L2.St} {δ : Ev} {i : Nat} {a : Addr} {c : Str}
def RzH (X : Wd) (F H : Hp) : Option PyData → VK → Prop
  | some d, Q => ∀ v F' H', Ext F H F' H' → RP X F' v d → Q v H'
  | none, _ => False
def THE (X : Wd) (m : Mo) (i : Nat) (a : Addr) (c : Str) (e : HE) : TE := fun σ H Q => ∃ F δ, En X m F H σ δ ∧ σ[i]? = some (some (.ref a)) ∧ RzH X F H (evH c e δ) Q
def THs (X : Wd) (m : Mo) (i : Nat) (a : Addr) (c : Str) (h : List HS) : TS := fun D σ H => ∃ F δ, En X m F H σ δ ∧ σ[i]? = some (some (.ref a)) ∧ RzS X m F D (execH c h δ)
theorem h_var {j : Nat} {x : Str} {pos : Pos} (hN : Y.N[j]? = some x) (hv : Vis Y.env.scope x) (hd : (x == ("__debug__" : Str)) = false) (hcd : (x == ("__classdict__" : Str)) = false) : PE Y (.Name x pos) (THE X m i a c (.var j)) := by
  refine (pe_var (X := Y) hN hv hd hcd).imp fun σ H Q ⟨F, δ, E, _, h⟩ => ?_
  have h' : RzH X F H (match δ[j]? with
    | some (some (.sh d)) => some d
    | _ => none) Q := h
  split at h'
  · rename_i d ed
    obtain ⟨v, e1, r⟩ := E.sh j d ed
    exact ⟨v, e1, h' v F H (.refl E.sub) r⟩
  · exact h'.elim
theorem h_add {l r : Expr} {x y : HE} {pos : Pos} (h1 : PE Y l (THE X m i a c x)) (h2 : PE Y r (THE X m i a c y)) (hX : wd Y = wd X) : PE Y (.BinOp l .Add r pos) (THE X m i a c (.add x y)) := by
  refine (pe_op (bin_ok (X := Y) .Add) h1 h2).imp fun σ H Q ⟨F, δ, E, es, h⟩ => ⟨F, δ, E, es, ?_⟩
  have h' : RzH X F H ((evH c x δ).bind fun u => (evH c y δ).bind fun v => binD .Add u v) Q := h
  cases e1 : evH c x δ with
  | none => rw [e1] at h'; exact h'.elim
  | some du =>
    rw [e1] at h'
    intro u F1 H1 x1 r1
    refine ⟨F1, δ, E.ext x1, es, ?_⟩
    cases e2 : evH c y δ with
    | none =>
      rw [e2] at h'
      exact h'.elim
    | some dv =>
      rw [e2] at h'
      intro v F2 H2 x2 r2
      have h3 : RzH X F H (binD .Add du dv) Q := h'
      cases e3 : binD .Add du dv with
      | none => rw [e3] at h3; exact h3.elim
      | some d =>
        rw [e3] at h3
        refine ⟨F2, du, dv, d, x2.fh, ?_, ?_, e3, fun w F3 H3 x3 r3 => h3 w F3 H3 (x1.trans (x2.trans x3)) ?_⟩
        · rw [hX]; exact r1.mono x2.ff
        · rw [hX]; exact r2
        · rw [hX] at r3; exact r3
/-- a list of answers -/
def tIs (i : Nat) (a : Addr) (bs : List Bool) : TA := fun σ H Q => σ[i]? = some (some (.ref a)) ∧ Q (bs.map V.bl) H
theorem RpA.bools {P : Program} {w : World} {K : PySem.W.Frag} {F : Hp} : ∀ bs : List Bool, RpA P w K F (bs.map V.bl) (bs.map PyData.bool)
  | [] => .nil
  | b :: r => .cons (.bl b) (RpA.bools r)
theorem h_isl {es : List Expr} {Cs : List Str} {pos : Pos} (h1 : PA Y es (tIs i a (Cs.map (isSub c)))) : PE Y (.List es pos) (THE X m i a c (.isl Cs)) := by
  refine (pe_lst (pos := pos) h1).imp fun σ H Q ⟨F, δ, E, es, h⟩ => ⟨es, ?_⟩
  have h' : RzH X F H (if Cs.length ≤ 100 then some (.list (Cs.map fun C => .bool (isSub c C))) else none) Q := h
  split at h'
  · rename_i hl
    refine ⟨by rw [List.length_map, List.length_map, sizeLine_eq]; omega, fun p np => ?_⟩
    refine h' _ _ _ (.alloc E.sub np) (.lst upd_same ?_)
    have z := RpA.bools (P := X.prog) (w := X.w) (K := X.K) (F := upd F p (.lst ((Cs.map (isSub c)).map V.bl))) (Cs.map (isSub c))
    rw [List.map_map (g := PyData.bool)] at z
    exact z
  · exact h'.elim
end
/-! ### one question, one class -/
section
variable {X : Cx} {m : Mo} {i : Nat} {a A : Addr} {oe : Obj} {pn : List (Addr × Obj)}
theorem is_nil : PA (X.suite a ((a, oe) :: pn)) [] (tIs i a []) := pa_nil.imp fun σ H Q h => h.2
theorem is_cons {n C : Str} {cv : V} {cu : Value} {b : Bool} {bs : List Bool} {es : List Expr} {p p2 p3 pos : Pos} (hE : ExcC X.K A) (hz : Zc (.ref A) none oe) (hf : ∃ vs, oe.data = .fields vs)
    (hg : Gl X "isinstance") (hm : X.mg "isinstance" = none) (hN : X.N[i]? = some n) (hv : Vis X.env.scope n) (hd : (n == ("__debug__" : Str)) = false) (hcd : (n == ("__classdict__" : Str)) = false)
    (hC : PE (X.suite a ((a, oe) :: pn)) (.Name C p3) (tC cv)) (hu : ∀ u, RelV cv u → u = cu) (hk : PySem.W.kitOne X.K (.ref A) cu = some b) (h2 : PA (X.suite a ((a, oe) :: pn)) es (tIs i a bs)) :
    PA (X.suite a ((a, oe) :: pn)) (.Call (.Name "isinstance" p) [.Name n p2, .Name C p3] [] pos :: es) (tIs i a (b :: bs)) := by
  refine (pa_cons (pe_callB (X := X.suite a ((a, oe) :: pn)) (call_isE hE hz hf) hg hm (by decide) (pa_cons (pe_var (i := i) hN hv hd hcd) (pa_cons hC pa_nil rfl) rfl) (by decide) (by decide) rfl rfl) h2 rfl).imp fun σ H Q ⟨es, h⟩ => ?_
  exact ⟨.ref a, es, cv, cu, b, rfl, hu, hk, es, h⟩
/-! ### statements of the clause -/
variable {c : Str}
theorem hs_nil : PSs (X.suite a ((a, oe) :: pn)) [] (THs X m i a c []) := pss_nil.imp fun D σ H ⟨F, δ, E, es, h⟩ => h σ F H E .refl
theorem hs_ret {e : Expr} {he : HE} {r : List HS} {pos : Pos} (h1 : PE (X.suite a ((a, oe) :: pn)) e (THE X m i a c he)) : PSs (X.suite a ((a, oe) :: pn)) [.Return (some e) pos] (THs X m i a c (.ret he :: r)) := by
  refine (pss_one (ps_ret h1)).imp fun D σ H ⟨F, δ, E, es, h⟩ => ⟨F, δ, E, es, ?_⟩
  have h' : RzS X m F D (match evH c he δ with
    | some d => Out.rt d
    | none => .stuck) := h
  cases e1 : evH c he δ with
  | none => rw [e1] at h'; exact h'.elim
  | some d =>
    rw [e1] at h'
    exact fun v F1 H1 x r => h' v F1 H1 (x.fz E) x.fh (E.old.trans x.hh) r
theorem hs_set {j : Nat} {x : Str} {e : Expr} {he : HE} {r : List HS} {st : List Stmt} {pos pos' : Pos} (hN : X.N.Nodup) (hi : X.N[j]? = some x) (hx : Loc X.env.scope x) (hf : X.fn x = true ∨ X.env.scope.names.lookup x = some .local) (hj : j ≠ i) (hs : swapsWith e (some (.Name x pos')) pos.line X.env = pure false)
    (h1 : PE (X.suite a ((a, oe) :: pn)) e (THE X m i a c he)) (h2 : PSs (X.suite a ((a, oe) :: pn)) st (THs X m i a c r)) : PSs (X.suite a ((a, oe) :: pn)) (.Assign [.Name x pos'] e pos :: st) (THs X m i a c (.set j he :: r)) := by
  refine (pss_cons (ps_set (X := X.suite a ((a, oe) :: pn)) hN hi hx h1 hs hf) h2).imp fun D σ H ⟨F, δ, E, es, h⟩ => ⟨F, δ, E, es, ?_⟩
  have h' : RzS X m F D (match evH c he δ with
    | some d => execH c r (slot δ j (.sh d))
    | none => .stuck) := h
  cases e1 : evH c he δ with
  | none => rw [e1] at h'; exact h'.elim
  | some d =>
    rw [e1] at h'
    exact fun v F1 H1 x1 r1 => ⟨F1, _, (E.ext x1).set r1, by rw [set_other hj]; exact es, h'.mono (x1.fz E)⟩
end
/-- what is known of the own class x of errors, where the clause asks of the class C -/
structure EcI (X : Cx) (m : Mo) (x C : Str) : Prop where
  ex : ∃ A B, m.C x = some A ∧ X.mg C = some (.ref B) ∧ ExcC X.K A ∧ PySem.W.kitOne X.K (.ref A) (.ref B) = some (isSub x C) ∧ PySem.W.kitOne X.K (.ref A) (.type "ValueError") = some true ∧ PySem.W.exmOne X.K (.ref A) (.ref B) = some (isSub x C)
  db : (C == ("__debug__" : Str)) = false
section
variable {X : Cx} {m : Mo}
theorem s_tryE {body suite : List Stmt} {b₀ : Stmt} {b : TrB} {es : List Str} {C n : Str} {i : Nat} {h : List HS} {np pos pos' : Pos} {cc : Value} (hs : X.stack = X.env :: X.outer) (hf : X.env.frame = some X.env.locals) (hN : X.N.Nodup) (hi : X.N[i]? = some n) (hln : X.env.kindOf n = some .local) (hc : Names X C cc) (tk : Takes X m.W)
    (hes : ∀ x ∈ es, ∃ A, m.C x = some A) (hex : ∀ x A, m.C x = some A → PySem.W.exmOne X.K (.ref A) cc = some (isSub x C))
    (hb : ∀ (W : WX) (pn : List (Addr × Obj)) (xe : Value → Shared → Prop), Takes (X.tr pn xe) W → PSs (X.tr pn xe) body (TTb X { m with W := W } b))
    (hsu : ∀ (a A : Addr) (oe : Obj) (pn : List (Addr × Obj)) (c : Str), m.C c = some A → Zc (.ref A) none oe → (∃ vs, oe.data = .fields vs) → PSs (X.suite a ((a, oe) :: pn)) (b₀ :: suite) (THs X m i a c h)) :
    PS X (.Try body [.ExceptHandler (some (.Name C np)) (some n) (b₀ :: suite) pos'] [] [] pos) (SS X m (.tryE b es C i h)) := by
  refine (ps_try_as (pos := pos) (ts := fun a cls d D σ H => ∃ c A, m.C c = some A ∧ cls = .ref A ∧ d = none ∧ THs X m i a c h D σ H) (tb := fun W => TTb X { m with W := W } b) hs hf hN hi hln hc tk (fun W pn xe t _ => hb W pn xe t) fun a oe cls d pn hz hfl => ?_).imp fun D σ H ⟨F, δ, E, q⟩ => ?_
  · refine ⟨fun pins s σ H D I ⟨c, A, e1, e2, e3, rd⟩ => ?_⟩
    subst e2 e3
    exact (hsu a A oe pn c e1 hz hfl).run pins s σ H D I rd
  · refine ⟨F, δ, E.withW _, ?_⟩
    have q' : RzS X m F D (tryO δ es C i h (evT m.g m.f b δ)) := q
    show RzT X _ σ F H D (evT m.g m.f b δ)
    cases e1 : evT m.g m.f b δ with
    | stuck => rw [e1] at q'; exact q'.elim
    | ok o =>
      rw [e1] at q'
      cases o with
      | none => exact fun F1 H1 x => q' σ F1 H1 (E.ext x) (x.fz E)
      | some d => exact fun v F1 H1 x r => q' v F1 H1 (x.fz E) x.fh (E.old.trans x.hh) r
    | err z =>
      rw [e1] at q'
      unfold tryO at q'
      by_cases hz : isSub z C = true
      · by_cases he : z ∈ es ∧ i < δ.length
        · have q2 : RzS X m F D (match execH z h (δ.set i none) with
            | .nx δ' => .nx (δ'.set i none)
            | .rt d => .rt d
            | _ => .stuck) := by
            have := q'
            simp only [hz, he.1, he.2, true_and, if_true] at this
            exact this
          obtain ⟨A, e2⟩ := hes z he.1
          refine ⟨A, e2, fun H1 s1 => ⟨true, by rw [hex z A e2, hz], fun _ a na => ⟨z, A, e2, rfl, rfl, F, δ.set i none, (E.same s1).junk i _, ?_, ?_⟩, fun y => nomatch y⟩⟩
          · exact set_self (by rw [← E.len]; exact he.2)
          · cases e3 : execH z h (δ.set i none) with
            | nx δ' =>
              rw [e3] at q2
              exact fun σ' F1 H2 E2 z2 => q2 _ F1 H2 (E2.clear i) z2
            | rt d =>
              rw [e3] at q2
              exact q2
            | bk _ => rw [e3] at q2; exact q2.elim
            | ct _ => rw [e3] at q2; exact q2.elim
            | err _ => rw [e3] at q2; exact q2.elim
            | stuck => rw [e3] at q2; exact q2.elim
        · have := q'
          simp only [hz, true_and, he, if_false, if_true] at this
          exact this.elim
      · have q2 : RzS X m F D (.err z) := by
          have := q'
          have hz' : isSub z C = false := by simpa using hz
          simp only [hz', Bool.false_eq_true, false_and, and_false, if_false] at this
          exact this
        obtain ⟨A, e2, w⟩ := q2
        exact ⟨A, e2, fun H1 s1 => ⟨_, hex z A e2, fun y => absurd y hz, fun _ => w σ H1 (E.old.trans s1)⟩⟩
end
end Rh

set_option Elab.async false
set_option linter.all false
set_option maxRecDepth 100000
set_option maxHeartbeats 1000000
/-! Tables of sets up to 512 slots: where a thing is put, and that it is found again. -/
namespace Rs
open PySem PySem.Spec PyProof.Rows L2
/-- the sizes that come, less one -/
def Rd (m : Nat) : Prop := m = 7 ∨ m = 31 ∨ m = 127 ∨ m = 511
def its (m : Nat) : Nat → Nat → List Nat
  | 0, _ => []
  | n + 1, i => i :: its m n ((i * 5 + 1) % (m + 1))
theorem its_at (m : Nat) : ∀ (n a x : Nat), x ∈ its m n (lcgN m a) → ∃ b, b < a + n ∧ lcgN m b = x
  | 0, _, _, h => nomatch h
  | n + 1, a, x, h => by
    rcases List.mem_cons.mp h with ex | h
    · exact ⟨a, by omega, ex.symm⟩
    · obtain ⟨b, h1, h2⟩ := its_at m n (a + 1) x h
      exact ⟨b, by omega, h2⟩
theorem full511 : ((List.range 512).all fun j => (its 511 512 0).contains j) = true := by decide +kernel
theorem turn511 : lcgN 511 512 = 0 := by decide +kernel
theorem shift511 : ∀ k, lcgN 511 (512 + k) = lcgN 511 k
  | 0 => turn511
  | k + 1 => by
    show (lcgN 511 (512 + k) * 5 + 1) % 512 = (lcgN 511 k * 5 + 1) % 512
    rw [shift511 k]
theorem met511 (j : Nat) (hj : j ≤ 511) : ∃ b, b < 512 ∧ lcgN 511 b = j := by
  have z := List.all_eq_true.mp full511 j (List.mem_range.mpr (by omega))
  obtain ⟨b, h1, h2⟩ := its_at 511 512 0 j (List.contains_iff_mem.mp z)
  exact ⟨b, by omega, h2⟩
theorem Rd.come {m i j : Nat} (h : Rd m) (hi : i ≤ m) (hj : j ≤ m) : ∃ k, k ≤ m ∧ lcgI m i k = j := by
  rcases h with e | e | e | e
  · subst e; exact lcgI_all (.inl rfl) hi hj
  · subst e; exact lcgI_all (.inr (.inl rfl)) hi hj
  · subst e; exact lcgI_all (.inr (.inr rfl)) hi hj
  · subst e
    obtain ⟨a, ha, ea⟩ := met511 i hi
    obtain ⟨b, hb, eb⟩ := met511 j hj
    subst ea
    by_cases c : a ≤ b
    · exact ⟨b - a, by omega, by rw [lcgN_add, Nat.add_sub_cancel' c, eb]⟩
    · refine ⟨512 + b - a, by omega, ?_⟩
      rw [lcgN_add, show a + (512 + b - a) = 512 + b by omega, shift511, eb]
theorem Rd.odd {m : Nat} (h : Rd m) : m % 2 = 1 := by rcases h with e | e | e | e <;> subst e <;> rfl
theorem Rd.top {m : Nat} (h : Rd m) : m ≤ 511 := by rcases h with e | e | e | e <;> omega
/-! ### the way of a hash -/
theorem bitsLe (m : Nat) (h : Int) : SetTable.bits h % (m + 1) ≤ m := by
  exact Nat.le_of_lt_succ (Nat.mod_lt (SetTable.bits h) (Nat.succ_pos m))
theorem wayLe (m : Nat) (h : Int) (k : Nat) : way m h k ≤ m := by
  have b := runEnd_bd (bitsLe m h)
  have z := nth_in (m := m) k (runAt m (SetTable.bits h % (m + 1)) (SetTable.bits h)) (by simp only [runAt]; omega)
  exact Nat.le_trans (Nat.le_add_right _ _) z
theorem offLe {m : Nat} : ∀ (n i b : Nat), i ≤ m → off m i b n ≤ 10 * n
  | 0, _, _, _ => Nat.le_refl _
  | n + 1, i, b, hi => by
    have z := runEnd_bd hi
    have y := offLe n (SetTable.leap m i b).1 (SetTable.leap m i b).2 (leap_le m i b)
    simp only [off]
    omega
/-- the first slot of some kind on a way -/
theorem firstOn {m : Nat} (hm : Rd m) (h : Int) (p : Nat → Prop) {j : Nat} (hj : j ≤ m) (hp : p j) :
    ∃ K n, n < SetTable.turns m ∧ K ≤ off m (SetTable.bits h % (m + 1)) (SetTable.bits h) n ∧ K < 10 * SetTable.turns m ∧ p (way m h K) ∧ ∀ c, c < K → ¬ p (way m h c) := by
  obtain ⟨k, hk, ek⟩ := hm.come (runI_le m (SetTable.bits h) 12) hj
  have e : (nth m (runAt m (SetTable.bits h % (m + 1)) (SetTable.bits h)) (off m (SetTable.bits h % (m + 1)) (SetTable.bits h) (12 + k))).j = j := by
    rw [nth_off, itL_run]
    exact (runI_tail (bits_lt h) k).trans ek
  obtain ⟨K, h1, h2, h3⟩ := st_least (p := fun k => p (way m h k)) _ (by
    show p (nth m (runAt m (SetTable.bits h % (m + 1)) (SetTable.bits h)) (off m (SetTable.bits h % (m + 1)) (SetTable.bits h) (12 + k))).j
    rw [e]; exact hp)
  have := offLe (12 + k) _ (SetTable.bits h) (bitsLe m h)
  exact ⟨K, 12 + k, by unfold SetTable.turns; omega, h1, by unfold SetTable.turns; omega, h2, h3⟩
/-! ### a table, and the hashes in it -/
structure Tb (t : SetTable) (hs : List Int) : Prop where
  up : Ris t.place.toList
  dm : t.dummies = #[]
  sz : t.place.toList.length = hs.length
  rd : Rd t.mask
  bd : ∀ y ∈ t.place.toList, y ≤ t.mask
  re : ∀ (i : Nat) (h : Int) (j : Nat), hs[i]? = some h → t.place.toList[i]? = some j → ∃ k, way t.mask h k = j ∧ ∀ c, c < k → way t.mask h c ∈ t.place.toList
theorem Tb.free {t : SetTable} {hs : List Int} (T : Tb t hs) (hl : hs.length ≤ t.mask) (h : Int) :
    ∃ K, K < 10 * SetTable.turns t.mask ∧ way t.mask h K ∉ t.place.toList ∧ ∀ c, c < K → way t.mask h c ∈ t.place.toList := by
  obtain ⟨j, a, b⟩ := st_missing t.place.toList (t.mask + 1) (by rw [T.sz]; omega)
  obtain ⟨K, _, _, _, h1, h2, h3⟩ := firstOn T.rd h (fun j => j ∉ t.place.toList) (by omega : j ≤ t.mask) b
  exact ⟨K, h1, h2, fun c hc => Classical.byContradiction (h3 c hc)⟩
theorem Tb.ahead {t : SetTable} {hs : List Int} (T : Tb t hs) {h : Int} {K i j : Nat} (no : way t.mask h K ∉ t.place.toList) (hi : hs[i]? = some h) (hj : t.place.toList[i]? = some j) :
    ∃ c, c < K ∧ way t.mask h c = j := by
  obtain ⟨c, e, b⟩ := T.re i h j hi hj
  refine ⟨c, ?_, e⟩
  rcases Nat.lt_trichotomy c K with z | z | z
  · exact z
  · subst z
    exact absurd (e ▸ List.mem_of_getElem? hj) no
  · exact absurd (b K z) no
theorem Tb.put {t : SetTable} {hs : List Int} (T : Tb t hs) {h : Int} {K : Nat} (no : way t.mask h K ∉ t.place.toList) (yes : ∀ c, c < K → way t.mask h c ∈ t.place.toList)
    {j q : Nat} (ej : way t.mask h K = j) (eq : SetTable.below t.place j = q) : q ≤ hs.length ∧ Tb (t.put j).1 (hs.take q ++ h :: hs.drop q) := by
  have jm : j ≤ t.mask := ej ▸ wayLe t.mask h K
  rw [ej] at no
  have ql : q ≤ t.place.toList.length := by
    have := (below_cut T.up j).1
    rw [eq] at this
    simpa using this
  have qh : q ≤ hs.length := T.sz ▸ ql
  have pp : (t.put j).1.place.toList = t.place.toList.take q ++ j :: t.place.toList.drop q := by rw [put_place, eq]
  have sub : ∀ x, x ∈ t.place.toList → x ∈ (t.put j).1.place.toList := fun x hx => by
    rw [pp]; exact mem_ins.2 (.inr hx)
  refine ⟨qh, ?_, put_dm T.dm j, ?_, T.rd, fun x hx => ?_, fun i h' j' h1 h2 => ?_⟩
  · refine ris_insert T.up fun e => no (List.mem_of_getElem? (i := SetTable.below t.place j) ?_)
    rw [Array.getElem?_toList]; exact e
  · rw [pp, len_ins _ ql, len_ins _ qh, T.sz]
  · rw [pp] at hx
    rcases mem_ins.1 hx with ez | z
    · exact ez ▸ jm
    · exact T.bd x z
  · rw [tins_get _ qh] at h1
    rw [pp, tins_get _ ql] at h2
    have old : ∀ i, hs[i]? = some h' → t.place.toList[i]? = some j' → ∃ k, way (t.put j).1.mask h' k = j' ∧ ∀ c, c < k → way (t.put j).1.mask h' c ∈ (t.put j).1.place.toList := fun i a b => by
      obtain ⟨k, e, z⟩ := T.re i h' j' a b
      exact ⟨k, e, fun c hc => sub _ (z c hc)⟩
    by_cases c1 : i < q
    · rw [if_pos c1] at h1 h2; exact old i h1 h2
    · rw [if_neg c1] at h1 h2
      by_cases c2 : i = q
      · rw [if_pos c2] at h1 h2
        cases h1
        cases h2
        exact ⟨K, ej, fun c hc => sub _ (yes c hc)⟩
      · rw [if_neg c2] at h1 h2; exact old (i - 1) h1 h2
/-! ### all laid anew -/
theorem noneF {o : Option Nat} (h : ¬ o = none) : o.isNone = false := by
  cases o with
  | none => exact absurd rfl h
  | some _ => rfl
theorem lay1 {m : Nat} (hm : Rd m) {done : List Int} {ow : Array (Option Nat)} (W : Own m done ow) (hl : done.length ≤ m) (h : Int) :
    ∃ j, SetTable.layClean.free m ow (SetTable.turns m) (SetTable.bits h % (m + 1)) (SetTable.bits h) = some j ∧ Own m (done ++ [h]) (ow.setIfInBounds j (some done.length)) := by
  obtain ⟨ps, p1, p2⟩ := W.ps
  obtain ⟨j0, a0, b0⟩ := st_missing ps (m + 1) (by omega)
  have f0 : oAt ow j0 = none := Classical.byContradiction fun c => b0 (p2 j0 (by omega) c)
  obtain ⟨K, n, hn, hK, _, e2, e3⟩ := firstOn hm h (fun j => oAt ow j = none) (by omega : j0 ≤ m) f0
  have fr := free_spec m ow (SetTable.turns m) n _ _ K hn hK (fun k hk => noneF (e3 k hk)) (by
    have z : oAt ow (nth m (runAt m (SetTable.bits h % (m + 1)) (SetTable.bits h)) K).j = none := e2
    rw [z]; rfl)
  refine ⟨_, fr, ?_⟩
  obtain ⟨j, ej⟩ : ∃ j, j = way m h K := ⟨_, rfl⟩
  have jm : j ≤ m := ej ▸ wayLe m h K
  have js : j < ow.size := by rw [W.sz]; omega
  show Own m (done ++ [h]) (ow.setIfInBounds (way m h K) (some done.length))
  rw [← ej] at e2 ⊢
  have self := oAt_set_self (some done.length) js
  have other : ∀ i, i ≠ j → oAt (ow.setIfInBounds j (some done.length)) i = oAt ow i := fun i hi => oAt_set_ne _ hi
  have held : ∀ i, ¬ oAt ow i = none → oAt (ow.setIfInBounds j (some done.length)) i ≠ none := fun i hi => by
    by_cases c : i = j
    · subst c; rw [self]; simp
    · rw [other i c]; exact hi
  constructor
  · rw [Array.size_setIfInBounds, W.sz]
  · intro i k hi e
    by_cases c : i = j
    · subst c
      rw [self] at e
      cases e
      exact ⟨h, K, by simp, ej.symm, fun c hc => held _ (e3 c hc)⟩
    · rw [other i c] at e
      obtain ⟨h', K', q1, q2, q3⟩ := W.at_ i k hi e
      have kl : k < done.length := (List.getElem?_eq_some_iff.mp q1).1
      exact ⟨h', K', by rw [List.getElem?_append_left kl]; exact q1, q2, fun c hc => held _ (q3 c hc)⟩
  · intro k hk
    rw [List.length_append] at hk
    by_cases c : k < done.length
    · obtain ⟨i, q1, q2⟩ := W.all k c
      have : i ≠ j := fun z => by rw [z, e2] at q2; cases q2
      exact ⟨i, q1, by rw [other i this]; exact q2⟩
    · have ek : k = done.length := by simp at hk; omega
      exact ⟨j, jm, by rw [self, ek]⟩
  · refine ⟨j :: ps, by simp [p1], fun i hi e => ?_⟩
    by_cases c : i = j
    · rw [c]; exact List.mem_cons_self
    · rw [other i c] at e
      exact List.mem_cons_of_mem _ (p2 i hi e)
theorem layAll {m : Nat} (hm : Rd m) : ∀ (rest done : List Int) (ow : Array (Option Nat)), Own m done ow → done.length + rest.length ≤ m →
    ∃ ow' n, rest.foldl (stepF m) (some (ow, done.length)) = some (ow', n) ∧ Own m (done ++ rest) ow'
  | [], done, ow, W, _ => ⟨ow, _, rfl, by simpa using W⟩
  | h :: rest, done, ow, W, hl => by
    rw [List.length_cons] at hl
    obtain ⟨j, e, W1⟩ := lay1 hm W (by omega) h
    obtain ⟨ow2, n, f, W2⟩ := layAll hm rest (done ++ [h]) _ W1 (by simp; omega)
    refine ⟨ow2, n, ?_, by simpa using W2⟩
    rw [List.foldl_cons, stepF_some e]; simpa using f
theorem layTab (t : SetTable) {hs : Array Int} {wanted M : Nat} (hw : SetTable.sizeAbove wanted - 1 = M) (hM : Rd M) (hn : hs.size ≤ M) :
    ∃ t' order, t.relaid hs wanted = some (t', order) ∧ order.toList.Perm (List.range hs.size) ∧ Tb t' (order.toList.map fun i => hs.getD i 0) ∧ t'.mask = M ∧ t'.led = t.led ∧ t'.plain = t.plain := by
  obtain ⟨ow, n, f, W⟩ := layAll hM hs.toList [] _ (Own.init M) (by simpa using hn)
  rw [List.nil_append] at W
  have e : t.relaid hs wanted = some (tabOf t M ow, ((liveOf M ow).map (·.2)).toArray) := by
    rw [relaid_eq, hw, layClean_eq]
    have f' : hs.toList.foldl (stepF M) (some (Array.replicate (M + 1) none, 0)) = some (ow, n) := f
    rw [f']
    rfl
  obtain ⟨r1, r2⟩ := ris_live (fun j => ow.getD j none) (List.range (M + 1)) List.pairwise_lt_range
  have r1 : Ris ((liveOf M ow).map (·.1)) := r1
  have all : ∀ k, k < hs.size → k ∈ (liveOf M ow).map (·.2) := fun k hk => by
    obtain ⟨j, q1, q2⟩ := W.all k (by simpa using hk)
    exact List.mem_map.mpr ⟨(j, k), (mem_live W.sz).2 ⟨q1, q2⟩, rfl⟩
  have few : (liveOf M ow).length ≤ hs.size := by
    obtain ⟨ps, p1, p2⟩ := W.ps
    have nd : ((liveOf M ow).map (·.1)).Nodup := List.Pairwise.imp (fun h => Nat.ne_of_lt h) r1
    have z := nat_nodup_len _ ps nd fun x hx => by
      obtain ⟨⟨y, k⟩, q1, rfl⟩ := List.mem_map.mp hx
      obtain ⟨b1, b2⟩ := (mem_live W.sz).1 q1
      exact p2 y b1 (by rw [b2]; simp)
    rw [List.length_map, p1] at z
    simpa using z
  have many : hs.size ≤ (liveOf M ow).length := by
    have z := nat_nodup_len (List.range hs.size) ((liveOf M ow).map (·.2)) List.nodup_range fun k hk => all k (List.mem_range.mp hk)
    simpa using z
  refine ⟨_, _, e, perm_range hs.size _ (by simp; omega) all, ⟨r1, rfl, ?_, hM, fun x hx => ?_, fun i h j h1 h2 => ?_⟩, rfl, rfl, rfl⟩
  · simp [tabOf]
  · obtain ⟨⟨y, k⟩, q1, rfl⟩ := List.mem_map.mp (show x ∈ (liveOf M ow).map (·.1) from hx)
    exact ((mem_live W.sz).1 q1).1
  · have h2 : ((liveOf M ow).map (·.1))[i]? = some j := h2
    simp only [List.getElem?_map, Option.map_eq_some_iff] at h1 h2
    obtain ⟨⟨y, k⟩, q1, rfl⟩ := h2
    obtain ⟨k', ⟨q, q2, rfl⟩, q3⟩ := h1
    rw [q1] at q2
    cases q2
    obtain ⟨b1, b2⟩ := (mem_live W.sz).1 (List.mem_of_getElem? q1)
    obtain ⟨h0, K, a1, a2, a3⟩ := Own.at_ W y k b1 b2
    have eh : h0 = h := by
      rw [← q3, Array.getD_eq_getD_getElem?, ← Array.getElem?_toList, a1]
      rfl
    subst eh
    refine ⟨K, a2, fun c hc => ?_⟩
    obtain ⟨k2, z⟩ := Option.ne_none_iff_exists'.mp (a3 c hc)
    exact List.mem_map.mpr ⟨(way M h0 c, k2), (mem_live W.sz).2 ⟨wayLe _ _ _, z⟩, rfl⟩
end Rs

set_option Elab.async false
set_option linter.all false
set_option maxRecDepth 100000
set_option maxHeartbeats 1000000
/-! Sets of tuples of numbers: a search, and one more put in. -/
namespace Rs
open PySem PySem.Spec PyProof.Rows L2
/-- a set at a: the tuples L, by their slots -/
structure Sg (P : Program) (w : World) (h : Heap) (a : Addr) (L : List (Addr × List Int)) (es : Array (Int × Value)) (ep : Nat) (t : SetTable) : Prop where
  ob : ∃ x, h.get? a = some x ∧ x.data = .set es ep t ∧ x.ExactSet
  en : es.toList = rowsOf P w L
  tb : Tb t (L.map fun p => thash P w p.2)
  nd : (L.map (·.2)).Nodup
  tp : ∀ p ∈ L, IsT P w h p.2 p.1
  pl : t.plain = true
  ld : w.params.followText "set-order" = true ∨ t.led = true
  rm : L.length * 5 < t.mask * 3
  fw : L.length < 300
section
variable {P : Program} {w : World} {A : Around} {E : Value → Shared → Prop} {s : Shared} {a : Addr} {L : List (Addr × List Int)} {es : Array (Int × Value)} {ep : Nat} {t : SetTable}
theorem rowsLen (h : es.toList = rowsOf P w L) : es.size = L.length := by
  rw [← Array.length_toList, h, rowsOf, List.length_map]
theorem Sg.fits (R : Sg P w s.heap a L es ep t) : t.fits es.size = true := by
  have h1 := R.tb.sz
  have h2 := R.rm
  rw [List.length_map, Array.length_toList] at h1; simp only [SetTable.fits, SetTable.fill, R.tb.dm, rowsLen R.en, h1, Bool.and_eq_true, beq_iff_eq, decide_eq_true_eq, Array.size_empty, true_and]
  omega
theorem rowAt (h : es.toList = rowsOf P w L) {i : Nat} {p : Addr × List Int} (hp : L[i]? = some p) : es[i]? = some (thash P w p.2, Value.ref p.1) := by
  rw [← Array.getElem?_toList, h, rowsOf, List.getElem?_map, hp]; rfl
/-- behind a slot whose hash is the one that is sought -/
theorem seekRest (R : Sg P w s.heap a L es ep t) {x : Addr} {k : List Int} (hx : IsT P w s.heap k x) (hu : A.units < cLine) {i j f : Nat} {nx : SetTable.Probe} {p : Addr × List Int}
    (hp : L[i]? = some p) (hj : t.place.toList[i]? = some j) {Q : SetFound → Shared → Prop} (one : p.2 = k → Q (.there none) s)
    (more : p.2 ≠ k → wpAny (model P w) A (setSearchFrom a (.ref x) (thash P w k) true f (some nx)) Q E s) :
    wpAny (model P w) A (searchRest a (.ref x) (thash P w k) true f es t j i nx) Q E s := by
  obtain ⟨o, ho, hd, _⟩ := R.ob
  have row := rowAt R.en hp
  unfold searchRest
  rw [row]
  refine wpAny_bind (wpAny_holding (wpAny_eqBool_tuple hu (R.tp p (List.mem_of_getElem? hp)) hx (wpAny_bind (wpAny_setState_of ho hd R.fits ?_))))
  dsimp only
  by_cases c : p.2 = k
  · exact wp_if_pos (by simp [c]) (wpAny_pure (one c))
  · refine wp_if_neg (by simp [c]) ?_
    first | (rw [sameMem]; dsimp only) | (refine wpAny_bind (wpAny_pure ?_); rw [sameMem]; dsimp only)
    simp only [if_true, slot_live R.tb.up hj, row]
    refine wpAny_bind (wpAny_isSame_ref_self (wpAny_bind (wpAny_pure ?_))); simp only [if_true]
    exact wp_if_neg (by simp [c]) (more c)
theorem noDm (m : Nat) : ∀ (n : Nat) (p : SetTable.Probe), p.dummy = none → (nth m p n).dummy = none
  | 0, _, h => h
  | n + 1, p, h => noDm m n (adv m p) (by unfold adv; split <;> exact h)
/-- the search, from the c-th step of the way on -/
theorem seek (R : Sg P w s.heap a L es ep t) {x : Addr} {k : List Int} (hx : IsT P w s.heap k x) (hu : A.units < cLine) {K : Nat} (Kf : K < 10 * SetTable.turns t.mask)
    (no : way t.mask (thash P w k) K ∉ t.place.toList) (yes : ∀ c, c < K → way t.mask (thash P w k) c ∈ t.place.toList) {Q : SetFound → Shared → Prop}
    (hin : k ∈ L.map (·.2) → Q (.there none) s) (out : k ∉ L.map (·.2) → Q (.free (way t.mask (thash P w k) K) false) s) (pr : Nat → SetTable.Probe)
    (epr : pr = nth t.mask (runAt t.mask (SetTable.bits (thash P w k) % (t.mask + 1)) (SetTable.bits (thash P w k)))) :
    ∀ (f c : Nat) (st : Option SetTable.Probe), st.getD (t.probeStart (thash P w k)) = pr c → c ≤ K → K - c < f →
      (∀ (i : Nat) (p : Addr × List Int), L[i]? = some p → p.2 = k → ∃ b, c ≤ b ∧ b < K ∧ t.place.toList[i]? = some (way t.mask (thash P w k) b)) →
      wpAny (model P w) A (setSearchFrom a (.ref x) (thash P w k) true f st) Q E s
  | 0, c, st, _, _, hf, _ => absurd hf (Nat.not_lt_zero _)
  | f + 1, c, st, hst, hc, hf, inv => by
    obtain ⟨o, ho, hd, _⟩ := R.ob
    have gw : ¬ t.gaveWay = true := by
      unfold SetTable.gaveWay
      rw [R.tb.rd.odd]; decide
    rw [setSearchFrom_succ]
    refine wpAny_bind (wpAny_setState_of ho hd R.fits (wp_if_neg gw ?_))
    have sh : ∀ b, nth t.mask (pr c) b = pr (c + b) := fun b => by rw [epr]; exact (nth_add t.mask c _ b).symm
    have wy : ∀ b, (nth t.mask (pr c) b).j = way t.mask (thash P w k) (c + b) := fun b => by rw [sh, epr]
    have hashAt : ∀ (i : Nat) (p : Addr × List Int), L[i]? = some p → (es[i]?.map fun e : Int × Value => e.1).getD 0 = thash P w p.2 := fun i p hp => by rw [rowAt R.en hp]; rfl
    -- what is passed is not the one that is sought
    have pass : ∀ (q : Nat), (∀ b i, b < q → t.place.toList[i]? = some (nth t.mask (pr c) b).j → (es[i]?.map fun e : Int × Value => e.1).getD 0 ≠ thash P w k) →
        ∀ (i : Nat) (p : Addr × List Int), L[i]? = some p → p.2 = k → ∃ b, c + q ≤ b ∧ b < K ∧ t.place.toList[i]? = some (way t.mask (thash P w k) b) := fun q hno i p hp hk => by
      obtain ⟨b, b1, b2, b3⟩ := inv i p hp hk
      refine ⟨b, Classical.byContradiction fun z => ?_, b2, b3⟩
      refine hno (b - c) i (by omega) (by rw [wy, show c + (b - c) = b by omega]; exact b3) ?_
      rw [hashAt i p hp, hk]
    have spec := go_spec t R.tb.up R.tb.dm (fun i => (es[i]?.map fun e : Int × Value => e.1).getD 0) (thash P w k) (10 * SetTable.turns t.mask) (K - c) (pr c) (by rw [epr]; exact noDm _ c _ rfl) (by omega)
      (fun b hb => by rw [wy]; exact yes _ (by omega)) (by rw [wy, show c + (K - c) = K by omega]; exact no)
    rcases spec with ⟨q, i, hq, hi, hh, hno, hgo⟩ | ⟨hno, hgo⟩
    · have met : t.probe (fun i => (es[i]?.map fun e : Int × Value => e.1).getD 0) (thash P w k) (st.getD (t.probeStart (thash P w k))) = some (.candidate (way t.mask (thash P w k) (c + q)) i (pr (c + (q + 1)))) := by
        rw [hst, ← wy, ← sh]; exact hgo
      rw [met]
      dsimp only
      rw [wy] at hi
      have il : i < L.length := by
        have h1 := (List.getElem?_eq_some_iff.mp hi).1
        rw [R.tb.sz, List.length_map] at h1
        exact h1
      obtain ⟨p, hp⟩ : ∃ p, L[i]? = some p := ⟨_, List.getElem?_eq_getElem il⟩
      have rest : wpAny (model P w) A (searchRest a (.ref x) (thash P w k) true f es t (way t.mask (thash P w k) (c + q)) i (pr (c + (q + 1)))) Q E s := by
        refine seekRest R hx hu hp hi (fun e => hin (List.mem_map.mpr ⟨p, List.mem_of_getElem? hp, e⟩)) fun ne => ?_
        refine seek R hx hu Kf no yes hin out pr epr f (c + (q + 1)) _ rfl (by omega) (by omega) fun i0 p0 h0 hk0 => ?_
        obtain ⟨b, b1, b2, b3⟩ := pass q hno i0 p0 h0 hk0
        refine ⟨b, ?_, b2, b3⟩
        have : b ≠ c + q := fun eb => by
          subst eb
          have s0 := slot_live R.tb.up b3
          rw [slot_live R.tb.up hi] at s0
          injection s0 with s0
          subst s0
          rw [hp] at h0
          cases h0
          exact ne hk0
        omega
      by_cases hl : t.led = true
      · exact wp_if_neg (by simp [hl]) rest
      · refine wp_if_pos (by simp [hl]) (wpAny_bind (seen_tup hx (fun y hy => ?_) (wp_if_neg (by decide) rest)))
        obtain ⟨e, he, rfl⟩ := List.mem_map.mp hy
        have he : e ∈ es.toList := by
          have z : e ∈ es ∧ e.1 = thash P w k := by simpa using he
          simpa using z.1
        rw [R.en] at he
        obtain ⟨p2, hp2, rfl⟩ := List.mem_map.mp he
        exact ⟨p2.2, p2.1, rfl, R.tp p2 hp2⟩
    · have met : t.probe (fun i => (es[i]?.map fun e : Int × Value => e.1).getD 0) (thash P w k) (st.getD (t.probeStart (thash P w k))) = some (.empty (way t.mask (thash P w k) K) none) := by
        have z : way t.mask (thash P w k) K = (nth t.mask (pr c) (K - c)).j := by rw [wy, show c + (K - c) = K by omega]
        rw [hst, z]; exact hgo
      rw [met]
      dsimp only
      refine wpAny_pure (out fun hm => ?_)
      obtain ⟨p0, h0, hk0⟩ := List.mem_map.mp hm; obtain ⟨i0, hi0⟩ := List.mem_iff_getElem?.mp h0
      obtain ⟨b, b1, b2, _⟩ := pass (K - c) hno i0 p0 hi0 hk0
      omega
theorem seekAt (R : Sg P w s.heap a L es ep t) {x : Addr} {k : List Int} (hx : IsT P w s.heap k x) (hu : A.units < cLine) {Q : SetFound → Shared → Prop} (hin : k ∈ L.map (·.2) → Q (.there none) s)
    (out : ∀ K, k ∉ L.map (·.2) → way t.mask (thash P w k) K ∉ t.place.toList → (∀ c, c < K → way t.mask (thash P w k) c ∈ t.place.toList) → Q (.free (way t.mask (thash P w k) K) false) s) :
    wpAny (model P w) A (setSearch a (.ref x) (thash P w k) true) Q E s := by -- by the free slot
  have rm := R.rm
  have tp := R.tb.rd.top
  obtain ⟨K, Kf, no, yes⟩ := R.tb.free (by rw [List.length_map]; omega) (thash P w k)
  have big : K < 100000 := by
    unfold SetTable.turns at Kf
    omega
  unfold setSearch
  refine seek R hx hu Kf no yes hin (fun hn => out K hn no yes) _ rfl 100000 0 none rfl (Nat.zero_le _) (by omega) fun i p hp hk => ?_
  have hi : (L.map fun p => thash P w p.2)[i]? = some (thash P w k) := by rw [List.getElem?_map, hp, ← hk]; rfl
  have il : i < t.place.toList.length := by
    rw [R.tb.sz, List.length_map]
    exact (List.getElem?_eq_some_iff.mp hp).1
  obtain ⟨c, hc, e⟩ := R.tb.ahead no hi (List.getElem?_eq_getElem il)
  exact ⟨c, Nat.zero_le _, hc, by rw [e]; exact List.getElem?_eq_getElem il⟩
/-! ### the table laid anew -/
theorem relayAt {o : Obj} (ho : s.heap.get? a = some o) (hex : o.ExactSet) (hd : o.data = .set es ep t) (en : es.toList = rowsOf P w L) (tb : Tb t (L.map fun p => thash P w p.2)) (lm : L.length ≤ t.mask)
    (nd : (L.map (·.2)).Nodup) (tp : ∀ p ∈ L, IsT P w s.heap p.2 p.1) (pl : t.plain = true) (ld : w.params.followText "set-order" = true ∨ t.led = true) (fw : L.length < 300) {wanted M : Nat}
    (hw : SetTable.sizeAbove wanted = M + 1) (hM : Rd M) (hn : L.length * 5 < M * 3) {Q : Unit → Shared → Prop}
    (hQ : ∀ h' L' es' ep' t', Heap.SameBut a s.heap h' → Sg P w h' a L' es' ep' t' → L'.Perm L → Q () { s with heap := h' }) : wpAny (model P w) A (setRelay a wanted) Q E s := by
  have el := rowsLen en
  have tz := tb.sz
  rw [List.length_map, Array.length_toList] at tz
  have fits : t.fits es.size = true := by
    simp only [SetTable.fits, SetTable.fill, tb.dm, el, tz, Bool.and_eq_true, beq_iff_eq, decide_eq_true_eq, Array.size_empty, true_and]
    omega
  have Mt := hM.top
  obtain ⟨t', order, e, hp, T, em, e1, e2⟩ := layTab t (hs := es.map (·.1)) (wanted := wanted) (M := M) (by omega) hM (by rw [Array.size_map, el]; omega)
  rw [Array.size_map, el] at hp
  obtain ⟨L2, r1, r2, r3⟩ := order_rows L es order en hp
  rw [← r3] at T
  have ez : (order.filterMap (es[·]?)).size = es.size := by rw [rowsLen r1, r2.length_eq, el]
  rw [setRelay_eq]
  refine wpAny_bind (wpAny_setState_of ho hd fits (wp_if_neg (by rw [sizeLine_eq]; omega) ?_))
  rw [e]
  refine wpAny_bind (wp_if_neg (by rw [ez]; simp) (wpAny_pure ?_))
  refine wpAny_storeSet_of ho hd ?_ (by rw [ez, el, sizeLine_eq]; omega)
  have sb : Heap.SameBut a s.heap (s.heap.update a (Obj.putSet (order.filterMap (es[·]?)) t')) := Heap.SameBut.update _ _ _
  refine hQ _ L2 _ (ep + 1) t' sb ⟨⟨_, store_at ho hd, rfl, hex.1, hex.2.1, hex.2.2⟩, r1, T, (r2.map (·.2)).nodup_iff.mpr nd, fun p hq => isT_same (tp p (r2.mem_iff.mp hq)) ho hd sb, ?_, ?_, ?_, ?_⟩ r2
  · rw [e2]; exact pl
  · rw [e1]; exact ld
  · rw [r2.length_eq, em]; exact hn
  · rw [r2.length_eq]; exact fw
theorem sz5 : SetTable.sizeAbove (SetTable.grown 5) = 31 + 1 := by decide +kernel
theorem sz19 : SetTable.sizeAbove (SetTable.grown 19) = 127 + 1 := by decide +kernel
theorem sz77 : SetTable.sizeAbove (SetTable.grown 77) = 511 + 1 := by decide +kernel
/-! ### one put in -/
theorem addAt (R : Sg P w s.heap a L es ep t) {x : Addr} {k : List Int} (hx : IsT P w s.heap k x) (hu : A.units < cLine) (fw : L.length + 1 < 300) {Q : Bool → Shared → Prop}
    (hQ : ∀ b h' L' es' ep' t', Heap.SameBut a s.heap h' → Sg P w h' a L' es' ep' t' → (k ∈ L.map (·.2) → L' = L) → (k ∉ L.map (·.2) → L'.Perm ((x, k) :: L)) → Q b { s with heap := h' }) :
    wpAny (model P w) A (setAddHashed a (.ref x) (thash P w k)) Q E s := by -- three ends
  obtain ⟨o, ho, hd, hex⟩ := R.ob
  have el := rowsLen R.en
  have rm := R.rm
  unfold setAddHashed
  refine wpAny_holding ?_; rw [show (100000 : Nat) = 99999 + 1 from rfl, setAddHashedIn_succ]
  refine wpAny_bind (wpAny_setState_of ho hd R.fits (wp_if_neg (by simp [byScan, Value.scannable]) (wpAny_bind (seekAt R hx hu (fun hm => ?_) fun K hm no yes => ?_))))
  · exact wpAny_pure (hQ false s.heap L es ep t (Heap.SameBut.refl a s.heap) R (fun _ => rfl) fun z => absurd hm z)
  · refine wpAny_bind (wpAny_setState_of ho hd R.fits ?_)
    dsimp only
    obtain ⟨q, eq⟩ : ∃ q, SetTable.below t.place (way t.mask (thash P w k) K) = q := ⟨_, rfl⟩
    obtain ⟨ql, T1⟩ := R.tb.put no yes rfl eq
    obtain ⟨j, ej⟩ : ∃ j, way t.mask (thash P w k) K = j := ⟨_, rfl⟩
    rw [ej] at T1 eq ⊢
    have eput : t.put j = ((t.put j).1, q) := by rw [← eq]; rfl
    have m1 : (t.put j).1.mask = t.mask := rfl
    have l1 : (t.put j).1.led = t.led := rfl
    have p1 : (t.put j).1.plain = true := R.pl
    rw [eput]
    generalize (t.put j).1 = t1 at T1 m1 l1 p1
    dsimp only
    first
      | (refine wpAny_bind (wp_if_pos p1 (hashBy_tup hx ?_)))
      | (refine wp_if_pos p1 (wpAny_bind (hashBy_tup hx ?_)))
    simp only [if_true]
    have en1 : (SetTable.insertAt es q (thash P w k, Value.ref x)).toList = rowsOf P w (L.take q ++ (x, k) :: L.drop q) := by rw [SetTable.toList_insertAt, rows_put, R.en]
    have pm := put_perm L q (x, k)
    have T1 : Tb t1 ((L.take q ++ (x, k) :: L.drop q).map fun p => thash P w p.2) := by
      rw [List.map_append, List.map_cons, List.map_take, List.map_drop]; exact T1
    generalize SetTable.insertAt es q (thash P w k, Value.ref x) = es1 at en1 ⊢
    generalize L.take q ++ (x, k) :: L.drop q = L1 at pm T1 en1
    have l1n : L1.length = L.length + 1 := pm.length_eq
    have nd1 : (L1.map (·.2)).Nodup := (pm.map (·.2)).nodup_iff.mpr (List.nodup_cons.mpr ⟨hm, R.nd⟩)
    have e1n : es1.size = L.length + 1 := (rowsLen en1).trans l1n
    refine wpAny_bind (wpAny_storeSet_of ho hd ?_ (by rw [e1n, sizeLine_eq]; omega))
    have sb : Heap.SameBut a s.heap (s.heap.update a (Obj.putSet es1 t1)) := Heap.SameBut.update _ _ _
    have ho1 := store_at (es' := es1) (t' := t1) ho hd; generalize s.heap.update a (Obj.putSet es1 t1) = h1 at sb ho1 ⊢
    have tp1 : ∀ p ∈ L1, IsT P w h1 p.2 p.1 := fun p hp => by
      rcases List.mem_cons.mp (pm.mem_iff.mp hp) with e | e
      · subst e; exact isT_same hx ho hd sb
      · exact isT_same (R.tp p e) ho hd sb
    have ld1 : w.params.followText "set-order" = true ∨ t1.led = true := l1 ▸ R.ld
    have fl : t1.fill = L.length + 1 := by
      have z := T1.sz
      rw [List.length_map, l1n, Array.length_toList] at z
      simp [SetTable.fill, T1.dm, z]
    by_cases hf : (t1.tooFull : Bool) = true
    · have full : (L.length + 1) * 5 ≥ t.mask * 3 := by
        unfold SetTable.tooFull at hf
        rw [decide_eq_true_eq, fl, m1] at hf
        exact hf
      have go : ∀ M, SetTable.sizeAbove (SetTable.grown (L.length + 1)) = M + 1 → Rd M → (L.length + 1) * 5 < M * 3 → L.length + 1 ≤ t.mask →
          wpAny (model P w) A (setRelay a (SetTable.grown (es.size + 1))) (fun _ s' => wpAny (model P w) A (pure true) Q E s') E { s with heap := h1 } := fun M g1 g2 g3 g4 => by
        rw [el]
        refine relayAt (s := { s with heap := h1 }) ho1 ⟨hex.1, hex.2.1, hex.2.2⟩ rfl en1 T1 (by rw [l1n, m1]; exact g4) nd1 tp1 p1 ld1 (by omega) g1 g2 (by rw [l1n]; exact g3) fun h2 L2 es2 ep2 t2 sb2 R2 pm2 => ?_
        exact wpAny_pure (hQ true h2 L2 es2 ep2 t2 (sb.trans sb2) R2 (fun z => absurd z hm) fun _ => pm2.trans pm)
      have fin : wpAny (model P w) A (setRelay a (SetTable.grown (es.size + 1))) (fun _ s' => wpAny (model P w) A (pure true) Q E s') E { s with heap := h1 } := by
        rcases R.tb.rd with e | e | e | e
        · have : L.length = 4 := by omega
          exact go 31 (by rw [this]; exact sz5) (.inr (.inl rfl)) (by omega) (by omega)
        · have : L.length = 18 := by omega
          exact go 127 (by rw [this]; exact sz19) (.inr (.inr (.inl rfl))) (by omega) (by omega)
        · have : L.length = 76 := by omega
          exact go 511 (by rw [this]; exact sz77) (.inr (.inr (.inr rfl))) (by omega) (by omega)
        · omega
      first
        | (refine wpAny_bind (wp_if_pos (by simp [hf]) fin))
        | (exact wp_if_pos (by simp [hf]) (wpAny_bind fin))
    · have room : L1.length * 5 < t1.mask * 3 := by
        unfold SetTable.tooFull at hf
        rw [decide_eq_true_eq, fl] at hf
        omega
      have R1 : Sg P w h1 a L1 es1 (ep + 1) t1 := ⟨⟨_, ho1, rfl, hex.1, hex.2.1, hex.2.2⟩, en1, T1, nd1, tp1, p1, ld1, room, by omega⟩
      have fin := hQ true h1 L1 es1 (ep + 1) t1 sb R1 (fun z => absurd z hm) fun _ => pm
      first
        | exact wp_if_neg (by simp [hf]) (wpAny_pure fin)
        | exact wpAny_bind (wp_if_neg (by simp [hf]) (wpAny_pure (wpAny_pure fin)))
end
end Rs

set_option Elab.async false
set_option linter.all false
set_option maxRecDepth 100000
set_option maxHeartbeats 3200000
/-! set(xs) of a list of tuples of numbers, few of them different. -/
namespace Rs
open PySem PySem.Spec PyProof.Rows L2
section
variable {P : Program} {w : World} {E : Value → Shared → Prop} {A : Around} {s : Shared}
theorem Sg.kept {h h' : Heap} {a : Addr} {L : List (Addr × List Int)} {es : Array (Int × Value)} {ep : Nat} {t : SetTable} (R : Sg P w h a L es ep t) (ha : ∀ o, h.get? a = some o → h'.get? a = some o) (ht : ∀ p ∈ L, IsT P w h' p.2 p.1) :
    Sg P w h' a L es ep t := by
  obtain ⟨o, ho, r⟩ := R.ob
  exact ⟨⟨o, ha o ho, r⟩, R.en, R.tb, R.nd, ht, R.pl, R.ld, R.rm, R.fw⟩
abbrev newS (w : World) : Obj := { cls := .type "set", dict := none, data := .set #[] 0 (.fresh 0 0 (!w.params.followText "set-order")) }
theorem sgNew {h : Heap} {a : Addr} (ho : h.get? a = some (newS w)) : Sg P w h a [] #[] 0 (.fresh 0 0 (!w.params.followText "set-order")) := by
  refine ⟨⟨_, ho, rfl, rfl, rfl, rfl⟩, rfl, ⟨List.Pairwise.nil, rfl, rfl, .inl rfl, fun x hx => (nomatch hx), fun i h j hi => (by simp at hi)⟩, List.nodup_nil, fun p hp => (nomatch hp), rfl, ?_, (show 0 * 5 < 7 * 3 by decide), (show 0 < 300 by decide)⟩
  show _ ∨ (!w.params.followText "set-order") = true; cases w.params.followText "set-order" <;> simp
/-- the loop that puts in one behind the other -/
theorem fillS {I : Addr} {fp wr : List Addr} {G : Array GenState → Array GenState → Prop} {n : Nat} {Pv : Nat → Value → Prop} {St : Nat → Shared → Prop} {R : Result → Shared → Prop} (W : WalksS P w A.in1 I fp wr G n Pv St) (S : Addr) (hSf : S ∉ fp)
    (ks : List (Addr × List Int)) (hn : n = ks.length) (few : ∀ L : List (Addr × List Int), (L.map (·.2)).Nodup → (∀ p ∈ L, p ∈ ks) → L.length < 299) (val : ∀ i v, Pv i v → ∃ p, ks[i]? = some p ∧ v = .ref p.1)
    (h0 : Heap) (hk : ∀ q ∈ ks, IsT P w h0 q.2 q.1) (hS0 : h0.get? S = none) (hw0 : ∀ b ∈ wr, h0.get? b = none) (hu : A.in1.units < cLine) :
    ∀ (k i : Nat) (s : Shared), n - i = k → i ≤ n → St i s → (∀ b o, h0.get? b = some o → s.heap.get? b = some o) → (∃ L es ep t, Sg P w s.heap S L es ep t ∧ Got ks i L) →
      (∀ s' L es ep t, Moved (S :: wr) G s s' → Sg P w s'.heap S L es ep t → Got ks n L → (∀ b o, h0.get? b = some o → s'.heap.get? b = some o) → R (.ok (.ret .none)) s') →
      codeAny (model P w) A (.builtin "set.update.loop" ⟨[.ref S, .ref I], []⟩) R s := by -- one by one
  have Sw : S ∉ wr := fun z => hSf (W.sub _ z)
  have up : ∀ b ∈ wr, b ∈ S :: wr := fun b z => List.mem_cons_of_mem _ z
  have kp : ∀ {s s' : Shared}, Moved wr G s s' → (∀ b o, h0.get? b = some o → s.heap.get? b = some o) → ∀ b o, h0.get? b = some o → s'.heap.get? b = some o := fun mv old b o e =>
    mv.heap b o (fun hb => by rw [hw0 b hb] at e; exact nomatch e) (old b o e)
  -- one turn's set, carried over the iterator's step
  have cary : ∀ {i : Nat} {s s' : Shared} {L : List (Addr × List Int)} {es : Array (Int × Value)} {ep : Nat} {t : SetTable}, Moved wr G s s' → (∀ b o, h0.get? b = some o → s.heap.get? b = some o) → Sg P w s.heap S L es ep t → Got ks i L → Sg P w s'.heap S L es ep t :=
    fun mv old R g => R.kept (fun o e => mv.heap S o Sw e) fun p hp => isT_keep (hk p (List.mem_of_mem_take (g.sub p hp))) (kp mv old)
  intro k
  induction k with
  | zero =>
    intro i s e1 hi st old ⟨L, es, ep, t, R0, g⟩ hR
    obtain rfl : i = n := by omega
    refine codeAny_builtin F.entry_set_update_loop ?_; rw [Around.under_plainId F.plain_set_update_loop _]; show wpAny _ A.in1 (pyNext (.ref I) >>= _) _ _ s
    refine wpAny_bind (W.done s _ _ st fun s' mv => ?_)
    exact wpAny_pure (hR s' L es ep t (mv.mono up) (cary mv old R0 g) g (kp mv old))
  | succ k ih =>
    intro i s e1 hi st old ⟨L, es, ep, t, R0, g⟩ hR
    have il : i < n := by omega
    refine codeAny_builtin F.entry_set_update_loop ?_; rw [Around.under_plainId F.plain_set_update_loop _]; show wpAny _ A.in1 (pyNext (.ref I) >>= _) _ _ s
    refine wpAny_bind (W.item i s _ _ il st fun v s' pv st' mv => ?_)
    obtain ⟨p, hp, rfl⟩ := val i v pv
    have R1 := cary mv old R0 g
    have old1 := kp mv old
    have hx : IsT P w s'.heap p.2 p.1 := isT_keep (hk p (List.mem_of_getElem? hp)) old1
    have fw := few L R0.nd fun q hq => List.mem_of_mem_take (g.sub q hq)
    show wpAny _ A.in1 (holding [Value.ref p.1] (setAdd S (.ref p.1)) >>= _) _ _ s'; refine wpAny_bind (wpAny_holding ?_); unfold setAdd
    refine wpAny_holding (wpAny_bind (wpAny_pyHash_tuple hu hx ?_))
    refine addAt (s := { s' with toks := s'.toks + (p.2.length + 1) }) R1 hx hu (by omega) fun b h' L' es' ep' t' sb R2 c1 c2 => ?_
    have gn : Got ks (i + 1) L' := by
      by_cases c : p.2 ∈ L.map (·.2)
      · exact c1 c ▸ g.same hp c
      · exact g.more hp (c2 c)
    have same : ∀ b o, b ≠ S → s'.heap.get? b = some o → h'.get? b = some o := fun b o ne e => (sb.2 b ne).trans e
    refine wpAny_pure ⟨plainId_quiet F.plain_set_update_loop _, ?_⟩
    refine ih (i + 1) _ (by omega) il (W.frame _ s' _ _ st' (Nat.le_add_right _ _) fun b hb o e => same b o (fun z => hSf (z ▸ hb)) e)
      (fun b o e => same b o (fun z => by rw [z, hS0] at e; exact nomatch e) (old1 b o e)) ⟨L', es', ep', t', R2, gn⟩ fun s2 L2 es2 ep2 t2 mv2 Rz gz oldz => ?_
    exact hR s2 L2 es2 ep2 t2 (Moved.trans W.gtrans ((mv.mono up).then_heap (Nat.le_add_right _ _) fun b o hb e => same b o (fun z => hb (z ▸ List.mem_cons_self)) e) mv2) Rz gz oldz
/-- set(xs) -/
theorem callSet {l : Addr} {items : Array Value} (ks : List (Addr × List Int)) {Q : Value → Shared → Prop} (hh : A.handled = none) (hl : s.heap.IsList l items) (hit : items.toList = ks.map fun p => Value.ref p.1) (hk : ∀ p ∈ ks, IsT P w s.heap p.2 p.1)
    (few : ∀ L : List (Addr × List Int), (L.map (·.2)).Nodup → (∀ p ∈ L, p ∈ ks) → L.length < 299) (hu : A.units + 3 < cLine)
    (h : ∀ (h' : Heap) (tk : Nat) L es ep t, Sg P w h' s.heap.objs.size L es ep t → Got ks ks.length L → (∀ b o, s.heap.get? b = some o → h'.get? b = some o) → Q (.ref s.heap.objs.size) { s with heap := h', toks := tk }) :
    wpAny (model P w) A (call (.type "set") [.ref l]) Q E s := by -- all of a list
  have isz : items.size = ks.length := by rw [← Array.length_toList, hit, List.length_map]
  obtain ⟨c, tl, hmro⟩ := F.called_set.mro; have hmade := F.called_set.made
  have hsub := F.called_set.sub; have h1 := F.called_set.notType
  refine wpAny_call (codeAny_of_tree ?_); show wpAny _ _ (callAny (.type "set") _) _ _ _
  refine wpAny_pure ⟨Code.quiet_builtin _ (by decide +kernel), codeAny_builtin F.entry_type_call ?_⟩; rw [Around.under_plain (weight_type_call_type "set" [.ref l] []) rfl]; have h2 := F.called_set.canCreate
  have hct := F.typeCall_set_1 (.ref l); repeat (any_goals (first | assumption | wp_step))
  have made := code_set_led1 (P := P) (w := w) (A := A.in1) (s := s) (.ref l) (E := E) (Q₁ := fun ob s₁ => ob = .ref s.heap.objs.size ∧ s₁ = { s with heap := s.heap.push (newS w) }) ⟨rfl, rfl⟩
  refine codeAny_mono made fun r s₁ hr => ?_
  cases r with
  | error e => exact hr
  | ok fl =>
    cases fl with
    | ret ob =>
      obtain ⟨rfl, rfl⟩ := hr
      have hS : (s.heap.push (newS w)).get? s.heap.objs.size = some (newS w) := Heap.get?_push_size _ rfl
      have hT : Shared.TypeIs { s with heap := s.heap.push (newS w) } (.ref s.heap.objs.size) "set" := ⟨_, hS, rfl⟩
      have hli := F.called_set.init.lookup; have hbi := F.called_set.init.bind (.ref s.heap.objs.size); repeat (any_goals (first | assumption | wp_step))
      refine codeAny_mono (codeAny_call_builtin (R := wants (fun r s₂ => r = .none ∧ ∃ h' tk L es ep t, s₂ = { s with heap := h', toks := tk } ∧ Sg P w h' s.heap.objs.size L es ep t ∧ Got ks ks.length L ∧ (∀ b o, s.heap.get? b = some o → h'.get? b = some o)) E)
        F.called_set.init.plain F.entry_set_init (check_set_init_1 hT ?_)) fun r₂ s₂ hr₂ => ?_
      · obtain ⟨⟨ocls, odict, odata, oslots⟩, hol, hcl, nl, hdl⟩ := hl
        simp only at hcl hdl
        subst hcl; subst hdl
        have lS : l < s.heap.objs.size := Heap.lt_size hol
        have hol' : (s.heap.push (newS w)).get? l = some { cls := .type "list", dict := odict, data := .seq items nl, slots := oslots } := Heap.get?_push_of_some _ hol
        have hsls := F.sub_list_set; have hslf := F.sub_list_frozenset
        have hne : (Value.type "list" == Value.type "dict") = false := by rfl
        have hl1 : (s.heap.push (newS w)).IsList l items := ⟨_, hol', rfl, nl, rfl⟩
        unfold Builtin.«set.__init__» noKeywords Builtin.Frozenset.updateFrom; generalize hPI : pyIter = PI; wp_walk
        subst hPI
        refine wpAny_pyIter_list hl1 (wpAny_bind (wpAny_runValue ?_))
        have hh3 : A.in1.in1.in1.handled = none := by simpa using hh
        have sz1 : (s.heap.push (newS w)).objs.size = s.heap.objs.size + 1 := Heap.size_push ..
        have no : ∀ b, s.heap.objs.size ≤ b → s.heap.get? b = none := fun b hb => Option.eq_none_iff_forall_ne_some.mpr fun o q => absurd (Heap.lt_size q) (Nat.not_lt.mpr hb)
        have neI : l ≠ (s.heap.push (newS w)).objs.size := sz1 ▸ Nat.ne_of_lt (Nat.lt_succ_of_lt lS)
        have Sf : s.heap.objs.size ∉ [(s.heap.push (newS w)).objs.size, l] := by rw [sz1]; simp only [List.mem_cons, List.not_mem_nil, or_false, not_or]; exact ⟨Nat.ne_of_lt (Nat.lt_succ_self _), Nat.ne_of_gt lS⟩
        refine fillS ((Walks.list hh3 _ l neI items).toS) s.heap.objs.size Sf ks isz few (fun i v hv => ?val) s.heap hk (no _ (Nat.le_refl _))
          (fun b hb => no b (by rw [List.mem_singleton.mp hb]; exact sz1 ▸ Nat.le_succ _)) hu (items.size - 0) 0 _ (by omega) (Nat.zero_le _)
          ⟨⟨_, Heap.get?_push_size _ rfl, rfl, rfl⟩, (hl1.push _)⟩ (fun b o e => Heap.get?_push_of_some _ (Heap.get?_push_of_some _ e)) ⟨[], #[], 0, _, sgNew (Heap.get?_push_of_some _ hS), Got.zero ks⟩ ?fin
        case val =>
          have z : (ks.map fun p => Value.ref p.1)[i]? = some v := by rw [← hit, Array.getElem?_toList]; exact hv
          rw [List.getElem?_map, Option.map_eq_some_iff] at z
          obtain ⟨p, z1, z2⟩ := z
          exact ⟨p, z1, z2.symm⟩
        case fin =>
          intro s' L es ep t mv R' g' old
          obtain ⟨h', g2, d', tk', os2⟩ := s'
          have eg : g2 = s.gens := mv.gens
          have ed : d' = s.drawn := mv.drawn
          have eo : os2 = s.os := mv.os
          subst eg; subst ed; subst eo
          rw [isz] at g'
          show wpAny _ _ _ _ _ _
          refine wpAny_pure ?_
          exact wpAny_pure ⟨rfl, h', tk', L, es, ep, t, rfl, R', g', old⟩
      · cases r₂ with
        | error e => exact hr₂
        | ok fl₂ =>
          cases fl₂ with
          | ret r =>
            obtain ⟨rfl, h', tk, L, es, ep, t, rfl, R', g', old⟩ := hr₂
            (repeat (any_goals (first | assumption | wp_step))); exact h _ _ _ _ _ _ R' g' old
          | _ => exact hr₂.elim
    | _ => exact hr.elim
end
end Rs

set_option Elab.async false
set_option linter.all false
set_option maxRecDepth 100000
set_option maxHeartbeats 1000000
/-! sorted(set(xs)), xs a list of tuples of numbers. -/
namespace Rh
open PySem PySem.Spec PySem.Calls PyProof.Rows L2 PySem.W
theorem difT_mem : ∀ (as : List (List Int)) (k : List Int), k ∈ difT as ↔ k ∈ as
  | [], k => Iff.rfl
  | x :: r, k => by
    unfold difT
    have ih := difT_mem r k
    by_cases h : x ∈ r
    · rw [if_pos h, ih, List.mem_cons]
      exact ⟨.inr, fun z => z.elim (fun z => z ▸ h) id⟩
    · rw [if_neg h, List.mem_cons, List.mem_cons, ih]
theorem difT_nodup : ∀ as : List (List Int), (difT as).Nodup
  | [] => List.nodup_nil
  | x :: r => by
    unfold difT
    by_cases h : x ∈ r
    · rw [if_pos h]; exact difT_nodup r
    · rw [if_neg h, List.nodup_cons]
      exact ⟨fun z => h ((difT_mem r x).mp z), difT_nodup r⟩
theorem lt_tupI (a b : List Int) : dataLt (tupI a) (tupI b) = decide (a < b) := by
  unfold tupI
  rw [dataLt_tuple]
  exact dataLt_ints a b
theorem sortD_tups (as : List (List Int)) : sortD (as.map tupI) = (as.mergeSort fun a b => decide (a ≤ b)).map tupI := by
  unfold sortD
  rw [List.map_mergeSort]
  intro a _ b _
  show decide (a ≤ b) = !dataLt (tupI b) (tupI a)
  rw [lt_tupI, ← decide_not]
  exact decide_eq_decide.mpr (by rw [List.not_lt])
theorem sort_perm {as bs : List (List Int)} (h : as.Perm bs) : sortD (as.map tupI) = sortD (bs.map tupI) := by
  have st : ∀ l : List (List Int), (l.mergeSort fun a b => decide (a ≤ b)).Pairwise fun a b => a ≤ b := fun l =>
    (List.pairwise_mergeSort (le := fun a b => decide (a ≤ b)) (fun a b c h1 h2 => decide_eq_true (List.le_trans (of_decide_eq_true h1) (of_decide_eq_true h2))) (fun a b => by
      rw [Bool.or_eq_true, decide_eq_true_eq, decide_eq_true_eq]; exact List.le_total a b) l).imp fun h => of_decide_eq_true h
  rw [sortD_tups, sortD_tups]
  refine congrArg _ (List.Perm.eq_of_pairwise (le := fun a b : List Int => a ≤ b) (fun a b _ _ h1 h2 => List.le_antisymm h1 h2) (st as) (st bs) ?_)
  exact (List.mergeSort_perm _ _).trans (h.trans (List.mergeSort_perm _ _).symm)
theorem perm_map {α β : Type} {f : α → β} {us vs : List β} (h : us.Perm vs) : ∀ L : List α, vs = L.map f → ∃ M : List α, M.Perm L ∧ us = M.map f := by
  induction h with
  | nil => intro L e; exact ⟨L, .refl _, e⟩
  | cons x _ ih =>
    intro L e
    cases L with
    | nil => cases e
    | cons y L =>
      rw [List.map_cons] at e
      injection e with e1 e2
      obtain ⟨M, p, q⟩ := ih L e2
      exact ⟨y :: M, p.cons y, by rw [List.map_cons, e1, q]⟩
  | swap x y l =>
    intro L e
    match L, e with
    | [a], e => cases e
    | a :: b :: L, e =>
      rw [List.map_cons, List.map_cons] at e
      injection e with e1 e2
      injection e2 with e2 e3
      exact ⟨b :: a :: L, .swap a b L, by rw [List.map_cons, List.map_cons, ← e1, ← e2, ← e3]⟩
  | trans _ _ ih1 ih2 =>
    intro L e
    obtain ⟨M, p, q⟩ := ih2 L e
    obtain ⟨M', p', q'⟩ := ih1 M q
    exact ⟨M', p'.trans p, q'⟩
section
variable {prog : Program} {w : World} {E : Value → Shared → Prop} {A : Around} {s : Shared}
/-- sorted, of what is collected in some order -/
theorem sortedOf {r : Addr} {Rl : Value → PyData → Prop} {Q : Value → Shared → Prop} {Good : List Value → List PyData → Prop}
    (hcol : ∀ R : List Value → Shared → Prop, (∀ (s' : Shared) vs bs, (∀ b o, s.heap.get? b = some o → s'.heap.get? b = some o) → s.heap.objs.size ≤ s'.heap.objs.size → s'.gens = s.gens → s'.os = s.os → Good vs bs → R vs s') → wpAny (model prog w) A.in1 (collect (.ref r)) R E s)
    (hG : ∀ vs bs, Good vs bs → EachIs Rl vs bs ∧ EachIs (fun v b => ∃ as, Reads s.heap v b as) vs bs ∧ AllAlike bs ∧ Sortable bs ∧ bs.length ≤ sizeLine ∧ ∀ b ∈ bs, A.units + 2 + b.depth < cLine)
    (h : ∀ (s' : Shared) (p : Addr) out c vs bs, Good vs bs → (∀ b o, s.heap.get? b = some o → s'.heap.get? b = some o) → s.heap.objs.size ≤ p → s'.gens = s.gens → s'.os = s.os → s'.heap.get? p = some (seqObj "list" (List.toArray out) c) → EachIs Rl out (bs.mergeSort (dataLe false id)) → Q (.ref p) s') :
    wpAny (model prog w) A (call (.builtin "sorted") [.ref r]) Q E s := by
  refine call_function_entry kind_sorted plain_sorted entry_sorted (args_sorted1 _) ?_
  unfold Builtin.«sorted»
  refine wpAny_bind (m := checkCount "sorted" 1 1 _) (wpAny_pure (wpAny_bind (hcol _ fun s1 vs bs kp sz gn os gd => ?_)))
  obtain ⟨e, er, hal, hk, hL, hu⟩ := hG vs bs gd
  refine wpAny_bind (wpAny_newList ?_ (by rw [e.length]; exact hL))
  have ha : (s1.heap.push { cls := .type "list", data := .seq vs.toArray }).get? s1.heap.objs.size = some (seqObj "list" vs.toArray 0) := Heap.get?_push_size _ rfl
  have kold : ∀ b o, s.heap.get? b = some o → b ≠ s1.heap.objs.size ∧ (s1.heap.push { cls := .type "list", data := .seq vs.toArray }).get? b = some o := fun b o q => ⟨Nat.ne_of_lt (Heap.lt_size (kp b o q)), Heap.get?_push_of_some _ (kp b o q)⟩
  have er' : EachIs (fun v b => ∃ as, Reads (sortingHeap (s1.heap.push { cls := .type "list", data := .seq vs.toArray }) s1.heap.objs.size vs) v (id b) as) vs bs :=
    er.mono fun _ _ ⟨as, r⟩ => ⟨as, PyProof.Rows.Reads.keeps (fun b o q => sortingHeap_old (kold b o q).1 (kold b o q).2) r⟩
  have hg : wpAny (model prog w) A.in1 (call (.builtin "list.sort") [.ref s1.heap.objs.size]) (fun _ s' => Q (.ref s1.heap.objs.size) s') E { s1 with heap := s1.heap.push { cls := .type "list", data := .seq vs.toArray } } := by
    refine wpAny_call_entry slot_list_sort ⟨_, ha, rfl⟩ entry_list_sort (list_sort_vals (κ := dataKind (sortingHeap (s1.heap.push { cls := .type "list", data := .seq vs.toArray }) s1.heap.objs.size vs) bs) ha
      (SortsAt.data (s := { s1 with heap := sortingHeap (s1.heap.push { cls := .type "list", data := .seq vs.toArray }) s1.heap.objs.size vs }) er' hal hk (fun d hd => hu d hd)) (by rw [e.length]; exact hL) ⟨.none, rfl, ?_⟩) (args_list_sort _)
    have hid : bs.map id = bs := List.map_id _
    have eo := sortVals_data (h' := sortingHeap (s1.heap.push { cls := .type "list", data := .seq vs.toArray }) s1.heap.objs.size vs) (enc := id) false e er' (by rw [hid]; exact hal)
    rw [hid] at eo
    obtain ⟨c, hc⟩ := sortedHeap_at (vs := vs) (out := (sortVals (dataKind (sortingHeap (s1.heap.push { cls := .type "list", data := .seq vs.toArray }) s1.heap.objs.size vs) bs) false vs vs).toArray) ha
    refine h _ _ _ c vs bs gd (fun b o q => ?_) sz gn os hc eo
    obtain ⟨q1, q2⟩ := kold b o q
    exact (sortedHeap_old q1 (Heap.lt_size q2)).trans q2
  refine wpAny_bind (wpAny_holding (wpAny_mono hg (fun _ s' x => ?_) fun _ _ e => e))
  exact wpAny_pure ⟨_, rfl, x⟩
end
section
variable {X : Cx} {m : Mo} {F H F' H' : Hp} {σ : L2.St} {δ : Ev}
theorem tups_of : ∀ {vs : List V} {ds : List PyData} {as : List (List Int)}, RPA X F vs ds → tupsD ds = some as → ∃ ks : List (Addr × List Int), vs = (ks.map fun p => V.ref p.1) ∧ as = ks.map (·.2) ∧ ∀ p ∈ ks, TupAt F p.1 (p.2.map V.int)
  | _, _, as, .nil, e => by
    cases Option.some.inj e
    exact ⟨[], rfl, rfl, fun p hp => nomatch hp⟩
  | _, _, as, .cons (d := d) (ds := ds) h r, e => by
    cases h with
    | @tup a xs es ha ra =>
      obtain ⟨ns, e1, e2⟩ := Option.bind_eq_some_iff.mp (show (intsD es).bind (fun a => (tupsD ds).map (a :: ·)) = some as from e)
      obtain ⟨bs, e3, rfl⟩ := Option.map_eq_some_iff.mp e2
      obtain ⟨ks, q1, q2, q3⟩ := tups_of r e3
      have z := ra.ints e1
      subst z q1 q2
      refine ⟨(a, ns) :: ks, rfl, rfl, fun p hp => ?_⟩
      rcases List.mem_cons.mp hp with rfl | hp
      · exact ha
      · exact q3 p hp
    | _ => cases e
theorem tup_each : ∀ (L : List (Addr × List Int)), (∀ p ∈ L, TupAt F p.1 (p.2.map V.int)) → EachIs (RlD X F) (L.map fun p => Value.ref p.1) (L.map fun p => tupI p.2)
  | [], _ => .nil
  | p :: L, h => .cons ⟨.ref p.1, rfl, .tup (h p List.mem_cons_self) (RpA.of_ints p.2)⟩ (tup_each L fun q hq => h q (List.mem_cons_of_mem _ hq))
theorem nodup_len : ∀ (l D : List (List Int)), l.Nodup → (∀ x ∈ l, x ∈ D) → l.length ≤ D.length
  | [], _, _, _ => Nat.zero_le _
  | x :: l, D, hn, hs => by
    obtain ⟨h1, h2⟩ := List.nodup_cons.mp hn
    have hx : x ∈ D := hs x List.mem_cons_self
    have ih := nodup_len l (D.erase x) h2 fun y hy => (List.mem_erase_of_ne (fun e : y = x => h1 (e ▸ hy))).2 (hs y (List.mem_cons_of_mem _ hy))
    have := List.length_erase_of_mem hx
    have := List.length_pos_of_mem hx
    rw [List.length_cons]; omega
def tSset (X : Cx) (ta : TE) : TE := fun σ H Q => ta σ H fun x H1 => ∃ (F : Hp) (ds : List PyData) (as : List (List Int)), Same F H1 ∧ RP X F x (.list ds) ∧ tupsD ds = some as ∧ (difT as).length ≤ 250 ∧ sortable ((difT as).map tupI) = true ∧
  ∀ v F' H', Ext F H1 F' H' → RP X F' v (.list (sortD ((difT as).map tupI))) → Q v H'
theorem pe_sset {a : Expr} {ta : TE} {p p2 q pos : Pos} (hc : X.calm = true) (hu : X.A.units + 100 < cLine) (hg : Gl X "sorted") (hm : X.mg "sorted" = none) (hg2 : Gl X "set") (hm2 : X.mg "set" = none) (ha : PE X a ta)
    (na : starEach [a] X.env = (false, eval a X.env) :: starEach [] X.env) : PE X (.Call (.Name "sorted" p) [.Call (.Name "set" p2) [a] [] q] [] pos) (tSset X ta) := by
  constructor
  intro pins s σ H Q I h
  refine Call_ (ld_blt I hg hm boot_sorted (callWith_builtin1 (args_cons ?_ rfl) rfl rfl))
  refine Call_ (ld_blt I hg2 hm2 PyProof.Rows.boot_set (PyProof.Rows.callWith_type1 (args_cons (thn (ha.run pins s σ H _ I h) fun v s1 ⟨x, H1, I1, r1, q1⟩ => args_nil ?_) na) na rfl))
  obtain ⟨F, ds, as, sF, rp, et, few, st, fin⟩ := q1
  cases rp with
  | @lst l vs _ hl ra =>
  cases r1
  obtain ⟨ks, ev, ea, tk⟩ := tups_of ra et
  obtain ⟨its, rv, ⟨o, n, o1, o2, o3, o4⟩, hz⟩ := I1.list (SqL.of (sF _ _ hl))
  subst ev ea
  have isT : ∀ p ∈ ks, IsT X.prog X.w s1.heap p.2 p.1 := fun p hp => I1.isT ((tk p hp).mono sF).sq
  refine Rs.callSet (P := X.prog) (w := X.w) ks (I1.ok.hd hc) ⟨o, o1, o2, n, o4⟩ (by simpa using refs_of_vals rv) isT (fun L nd sub => ?_) (by omega) fun h' tk' L es ep t R g old => ?_
  · have z := nodup_len (L.map (·.2)) (difT (ks.map (·.2))) nd fun x hx => by
      obtain ⟨p, hp, rfl⟩ := List.mem_map.mp hx
      exact (difT_mem _ _).mpr (List.mem_map.mpr ⟨p, sub p hp, rfl⟩)
    rw [List.length_map] at z
    omega
  refine args_nil ?_
  have I2 : Inv X pins σ H1 { s1 with heap := h', toks := tk' } := I1.kept old
  obtain ⟨so, ho, hd, hex⟩ := R.ob
  have sub : ∀ p ∈ L, p ∈ ks := fun p hp => List.mem_of_mem_take (g.sub p hp)
  have pmL : (L.map (·.2)).Perm (difT (ks.map (·.2))) := (List.perm_ext_iff_of_nodup R.nd (difT_nodup _)).mpr fun k => by
    rw [difT_mem]
    constructor
    · intro hk
      obtain ⟨p, hp, rfl⟩ := List.mem_map.mp hk
      exact List.mem_map.mpr ⟨p, sub p hp, rfl⟩
    · intro hk
      obtain ⟨p, hp, rfl⟩ := List.mem_map.mp hk
      exact g.all p (by rw [List.take_length]; exact hp)
  obtain ⟨s1', s2', s3', s4', s5'⟩ := sortable_ok st
  have lL : L.length ≤ 250 := by
    have z := pmL.length_eq
    rw [List.length_map] at z
    omega
  have fits : t.fits es.size = true := Rs.Sg.fits (s := { s1 with heap := h', toks := tk' }) R
  refine sortedOf (s := { s1 with heap := h', toks := tk' }) (Rl := RlD X F) (Good := fun vs bs => ∃ M : List (Addr × List Int), M.Perm L ∧ vs = (M.map fun p => Value.ref p.1) ∧ bs = M.map fun p => tupI p.2)
    (fun R' hR => collect_set (A := X.A.in1) (by simpa using I1.ok.hd hc) ⟨so, ho, hex.1, hd⟩ fits (by rw [Rs.rowsLen R.en]; unfold scanBound; omega) R.tb.up R.ld fun s' out k1 k2 k3 k4 pm => ?_) (fun vs bs ⟨M, pm, e1, e2⟩ => ?_)
    (fun s' p out c vs bs ⟨M, pm, e1, e2⟩ k1 k2 k3 k4 hD eo => ?_)
  · have er : es.toList.map (·.2) = L.map fun p => Value.ref p.1 := by
      rw [R.en, L2.rowsOf, List.map_map]; rfl
    rw [er] at pm
    obtain ⟨M, p1, p2⟩ := perm_map pm L rfl
    exact hR s' out (M.map fun p => tupI p.2) k1 k2 k3 k4 ⟨M, p1, p2, rfl⟩
  · subst e1 e2
    have each := tup_each (X := X) (F := F) M fun p hp => tk p (sub p (pm.mem_iff.mp hp))
    have pmM : (M.map fun p => tupI p.2).Perm ((difT (ks.map (·.2))).map tupI) := by
      have z := ((pm.map (·.2)).trans pmL).map tupI
      rwa [List.map_map] at z
    refine ⟨each, reads_of I2 sF each fun d hd => s5' d (pmM.mem_iff.mp hd), fun d hd d' hd' => s1' d (pmM.mem_iff.mp hd) d' (pmM.mem_iff.mp hd'), ?_, ?_, fun b hb => ?_⟩
    · refine .inl fun d hd => ?_
      rcases s2' with z | z
      · exact z d (pmM.mem_iff.mp hd)
      · have z2 := (z d (pmM.mem_iff.mp hd)).2
        obtain ⟨p, _, rfl⟩ := List.mem_map.mp hd
        exact absurd rfl (z2 (p.2.map .int))
    · rw [List.length_map, pm.length_eq, sizeLine_eq]; omega
    · have := s4' b (pmM.mem_iff.mp hb)
      omega
  · subst e1 e2
    have esort : (M.map fun p => tupI p.2).mergeSort (dataLe false id) = sortD ((difT (ks.map (·.2))).map tupI) := by
      have z := sort_perm ((pm.map (·.2)).trans pmL)
      rw [← z, List.map_map]; rfl
    rw [esort] at eo
    obtain ⟨ws, rw1, rw2⟩ := of_each eo
    have hn : H1 p = none := I2.hok.fresh k2
    have ln : ws.length ≤ sizeLine := by
      rw [rw2.length, mergeSort_len, List.length_map]
      have z := pmL.length_eq
      rw [List.length_map] at z
      rw [sizeLine_eq]; omega
    have kk : ∀ b o, s1.heap.get? b = some o → s'.heap.get? b = some o := fun b o e => k1 b o (old b o e)
    have k0 : s1.heap.objs.size ≤ p := Nat.le_trans (Nat.le_of_lt (Heap.lt_size ho)) k2
    have J : Inv X pins σ (upd H1 p (.lst ws)) { s1 with heap := s'.heap, gens := s'.gens, drawn := s'.drawn, toks := s'.toks } :=
      I1.call (ch := []) (Un.laid kk k0 hn) (I1.hok.laid kk k0 ⟨ln, out, c, rw1, hD⟩) (by rw [k3]; exact I1.bare) (fun _ z => nomatch z)
    have es' : s' = { s1 with heap := s'.heap, gens := s'.gens, drawn := s'.drawn, toks := s'.toks } := by
      cases s'; cases s1; cases k4; rfl
    rw [es']
    exact ⟨.ref p, _, J, rfl, fin _ (upd F p (.lst ws)) _ (.alloc sF hn) (.lst upd_same (rw2.mono (same_upd (sF.free hn))))⟩
theorem e_sset {a : Expr} {c : DE} {p p2 q pos : Pos} (hc : X.calm = true) (hu : X.A.units + 100 < cLine) (hg : Gl X "sorted") (hm : X.mg "sorted" = none) (hg2 : Gl X "set") (hm2 : X.mg "set" = none) (h1 : PE X a (T X m c))
    (na : starEach [a] X.env = (false, eval a X.env) :: starEach [] X.env) : PE X (.Call (.Name "sorted" p) [.Call (.Name "set" p2) [a] [] q] [] pos) (T X m (.sset c)) := by
  refine (pe_sset hc hu hg hm hg2 hm2 h1 na).imp fun σ H Q ⟨F, δ, E, h⟩ => ?_
  refine T.one E h fun d v F1 H1 x1 E1 r _ hq => ?_
  obtain ⟨d2, e2, q2⟩ := ofO_some hq
  cases d with
  | list ds =>
    obtain ⟨as, ea, e3⟩ := Option.bind_eq_some_iff.mp (show (tupsD ds).bind _ = some d2 from e2)
    split at e3
    · rename_i hl
      rw [Bool.and_eq_true, Nat.ble_eq] at hl
      cases e3
      exact ⟨F1, ds, as, E1.sub, r, ea, hl.1, hl.2, q2⟩
    · cases e3
  | _ => cases e2
end
end Rh

set_option Elab.async false
set_option linter.all false
set_option maxRecDepth 100000
set_option maxHeartbeats 1000000
/-! Which text is which core code. -/
namespace Rh
open PySem PySem.Spec PyProof.Rows L2
/-- names: defs, constants, constants that are tuples, classes of errors, built-ins that are not hidden -/
structure Gs where
  fns : List Str
  gcs : List Str
  gts : List Str
  exs : List Str
  bls : List Str
  hcs : List Str
def noStar : Expr → Bool
  | .Starred _ _ => false
  | _ => true
def plainT : Expr → Bool
  | .UnaryOp .Not _ _ => false
  | .BoolOp _ _ _ => false
  | .IfExp _ _ _ _ => false
  | .Compare _ _ _ _ => false
  | _ => true
def noSlice : Expr → Bool
  | .Slice _ _ _ _ => false
  | _ => true
def noSet : Expr → Bool
  | .Set _ _ _ => false
  | _ => true
def noCall : Expr → Bool
  | .Call _ _ _ _ => false
  | _ => true
def visB (sc : Scope) (x : Str) : Bool := match sc.names.lookup x with
  | some .local => true
  | some .cell => true
  | some .free => true
  | _ => false
def locB (sc : Scope) (x : Str) : Bool := match sc.names.lookup x with
  | some .local => true
  | some .cell => true
  | _ => false
def stB (so sc : Scope) (x : Str) : Bool := match sc.names.lookup x with
  | some .local => true
  | _ => (match so.names.lookup x with
    | some .cell => true
    | _ => false)
def glB (sc : Scope) (x : Str) : Bool := match sc.names.lookup x with
  | some .globalImplicit => true
  | _ => false
def okN (x : Str) : Bool := !(x == ("__debug__" : Str)) && !(x == ("__classdict__" : Str))
def nmB (N : List Str) (i : Nat) (x : Str) : Bool := match N[i]? with
  | some y => decide (x = y)
  | none => false
def varB (N : List Str) (sc : Scope) (i : Nat) (x : Str) : Bool := nmB N i x && visB sc x && okN x
def bltB (G : Gs) (sc : Scope) (x : Str) : Bool := glB sc x && decide (x ∈ G.bls)
def chkG1 (N : List Str) (so sc : Scope) : Expr → Nat → Bool
  | .Name x _, i => nmB N i x && locB sc x && stB so sc x
  | _, _ => false
def chkGs (N : List Str) (so sc : Scope) : List Expr → List Nat → Bool
  | [], [] => true
  | e :: es, i :: is => chkG1 N so sc e i && chkGs N so sc es is
  | _, _ => false
def chkG (N : List Str) (so sc : Scope) : Expr → Tg → Bool
  | e, .one i => chkG1 N so sc e i
  | .Tuple es _ _, .many is => chkGs N so sc es is
  | _, _ => false
def ownOf (N : List Str) (t : Tg) : List (Str × Nat) := (slots t).map fun i => (N.getD i "", i)
def isTup : Expr → Bool
  | .Tuple _ _ _ => true
  | _ => false
def keysB : List (Option Expr) → List Str → Bool
  | [], [] => true
  | some (.Constant (.str x) _ _) :: r, k :: ks => decide (x = k) && keysB r ks
  | _, _ => false
section
variable (G : Gs) (N : List Str)
mutual
/-- t: as a test -/
def chkE : Scope → Bool → Expr → DE → Bool
  | _, _, _, .any => true
  | sc, _, ex, .var i => (match ex with
    | .Name x _ => varB N sc i x
    | _ => false)
  | _, _, ex, .int n => (match ex with
    | .Constant (.int k) _ _ => decide (k = n)
    | _ => false)
  | _, _, ex, .neg n => (match ex with
    | .UnaryOp .USub (.Constant (.int k) _ _) _ => decide (k = n)
    | _ => false)
  | _, _, ex, .str n => (match ex with
    | .Constant (.str k) _ _ => decide (k = n)
    | _ => false)
  | _, _, ex, .bl n => (match ex with
    | .Constant (.bool k) _ _ => k == n
    | _ => false)
  | _, _, ex, .non => (match ex with
    | .Constant .none _ _ => true
    | _ => false)
  | sc, _, ex, .glob y => (match ex with
    | .Name x _ => decide (x = y) && glB sc x && decide (x ∈ G.gcs)
    | _ => false)
  | sc, _, ex, .tup cs => (match ex with
    | .Tuple es _ _ => chkA sc es cs
    | _ => false)
  | sc, _, ex, .lst cs => (match ex with
    | .List es _ => chkA sc es cs
    | _ => false)
  | sc, _, ex, .bin op a b => (match ex with
    | .BinOp l o r _ => decide (o = op) && chkE sc false l a && chkE sc false r b
    | _ => false)
  | sc, _, ex, .cmp op a b => (match ex with
    | .Compare l [o] [r] _ => decide (o = op) && chkE sc false l a && chkE sc false r b && noSet r
    | _ => false)
  | sc, _, ex, .chain o1 o2 a b c => (match ex with
    | .Compare l [p1, p2] [r, z] _ => decide (p1 = o1) && decide (p2 = o2) && chkE sc false l a && chkE sc false r b && chkE sc false z c && noSet r && noSet z
    | _ => false)
  | sc, _, ex, .inG no a x => (match ex with
    | .Compare l [o] [.Name y _] _ => decide (o = if no then .NotIn else .In) && decide (y = x) && glB sc x && decide (x ∈ G.gts) && chkE sc false l a
    | _ => false)
  | sc, t, ex, .nt a => (match ex with
    | .UnaryOp .Not x _ => chkE sc t x a
    | _ => false)
  | sc, t, ex, .bop op es => (match ex with
    | .BoolOp o vs _ => decide (o = op) && chkB sc t vs es
    | _ => false)
  | sc, t, ex, .ite c a b => (match ex with
    | .IfExp q x y _ => !t && chkE sc true q c && chkE sc false x a && chkE sc false y b
    | _ => false)
  | sc, _, ex, .ix a b => (match ex with
    | .Subscript l r _ => chkE sc false l a && chkE sc false r b && noSlice r
    | _ => false)
  | sc, _, ex, .sl a cl ch => (match ex with
    | .Subscript l (.Slice lo hi none _) _ => chkE sc false l a && chkO sc lo cl && chkO sc hi ch
    | _ => false)
  | sc, _, ex, .tl0 a => (match ex with
    | .Subscript l (.Slice none (some (.Constant (.int k0) _ _)) (some (.UnaryOp .USub (.Constant (.int k1) _ _) _)) _) _ => decide (k0 = 0) && decide (k1 = 1) && chkE sc false l a
    | _ => false)
  | sc, _, ex, .rev a => (match ex with
    | .Subscript l (.Slice none none (some (.UnaryOp .USub (.Constant (.int k1) _ _) _)) _) _ => decide (k1 = 1) && chkE sc false l a
    | _ => false)
  | sc, _, ex, .disp ks vs e => (match ex with
    | .Subscript (.Dict keys values _) i _ => keysB keys ks && decide (keys.length = values.length) && !keys.isEmpty && decide (keys.length ≤ 15) && decide (ks.length = dlen vs) && chkA sc values vs && chkE sc false i e && noSlice i
    | _ => false)
  | sc, _, ex, .call f es => (match ex with
    | .Call (.Name x _) (a :: as) [] _ => decide (x = f) && decide (x ∈ G.fns) && glB sc x && chkA sc (a :: as) es
    | _ => false)
  | sc, _, ex, .bi1 f e => (match ex with
    | .Call (.Name x _) [a] [] _ => decide (x = biName f) && biOk f && bltB G sc x && chkE sc false a e && noStar a
    | _ => false)
  | sc, _, ex, .mn2 ca cb => (match ex with
    | .Call (.Name x _) [a, b] [] _ => decide (x = "min") && bltB G sc x && chkE sc false a ca && chkE sc false b cb && noStar a && noStar b
    | _ => false)
  | sc, _, ex, .isi e T => (match ex with
    | .Call (.Name x _) [a, .Name tn _] [] _ => decide (x = "isinstance") && bltB G sc x && bltB G sc tn && decide (T ∈ tyL) && decide (tn = Str.ofString T) && chkE sc false a e && noStar a
    | _ => false)
  | sc, _, ex, .cnt co ca => (match ex with
    | .Call (.Attribute o at' apos) [a] [] cpos => decide (at' = "count") && (apos.endLine == cpos.line) && noCall o && chkE sc false o co && chkE sc false a ca && noStar a
    | _ => false)
  | sc, _, ex, .tupRg c => (match ex with
    | .Call (.Name x _) [.Call (.Name y _) [a] [] _] [] _ => decide (x = "tuple") && decide (y = "range") && bltB G sc x && bltB G sc y && chkE sc false a c && noStar a
    | _ => false)
  | sc, _, ex, .lstRg c => (match ex with
    | .Call (.Name x _) [.Call (.Name y _) [a] [] _] [] _ => decide (x = "list") && decide (y = "range") && bltB G sc x && bltB G sc y && chkE sc false a c && noStar a
    | _ => false)
  | sc, _, ex, .lc t it c e => (match ex with
    | .ListComp elt [⟨tg, iter, ifs, 0⟩] scope _ => (!pairs it || isMany t) && blkC N sc scope (ownOf N t) && chkI sc tg iter it && chkG N scope (relS scope sc) tg t && chkC (relS scope sc) ifs c && chkE (relS scope sc) false elt e && noSet iter
    | _ => false)
  | sc, _, ex, .lenO i => (match ex with
    | .Call (.Name x _) [.Name y _] [] _ => decide (x = "len") && bltB G sc x && varB N sc i y
    | _ => false)
  | sc, _, ex, .ixO i e => (match ex with
    | .Subscript (.Name x _) k _ => varB N sc i x && chkE sc false k e && noSlice k
    | _ => false)
  | sc, t, ex, .truO i => t && (match ex with
    | .Name x _ => varB N sc i x
    | _ => false)
  | sc, _, ex, .lenS c => (match ex with
    | .Call (.Name x _) [.Call (.Name y _) [a] [] _] [] _ => decide (x = "len") && decide (y = "set") && bltB G sc x && bltB G sc y && chkE sc false a c && noStar a
    | _ => false)
  | sc, _, ex, .sset c => (match ex with
    | .Call (.Name x _) [.Call (.Name y _) [a] [] _] [] _ => decide (x = "sorted") && decide (y = "set") && bltB G sc x && bltB G sc y && chkE sc false a c && noStar a
    | _ => false)
  | sc, _, ex, .idx i c => (match ex with
    | .Call (.Attribute (.Name y _) at' apos) [a] [] cpos => decide (at' = "index") && (apos.endLine == cpos.line) && varB N sc i y && chkE sc false a c && noStar a
    | _ => false)
  | _, _, _, .mx2 _ _ => false
  | _, _, _, .inO _ _ _ => false
def chkA : Scope → List Expr → DEs → Bool
  | _, es, .nil => es.isEmpty
  | sc, es, .cons c cs => (match es with
    | [] => false
    | e :: r => chkE sc false e c && noStar e && chkA sc r cs)
def chkB : Scope → Bool → List Expr → DEs → Bool
  | _, _, _, .nil => false
  | sc, t, es, .cons c cs => (match es with
    | [] => false
    | e :: r => chkE sc t e c && (match cs with
      | .nil => r.isEmpty
      | .cons _ _ => chkB sc t r cs))
def chkO : Scope → Option Expr → DO → Bool
  | _, o, .no => o.isNone
  | sc, o, .some c => (match o with
    | none => false
    | some e => chkE sc false e c)
def chkC : Scope → List Expr → DO → Bool
  | _, es, .no => es.isEmpty
  | sc, es, .some c => (match es with
    | [e] => chkE sc true e c
    | _ => false)
def chkI : Scope → Expr → Expr → IT → Bool
  | sc, _, e, .seq c => chkE sc false e c
  | sc, _, ex, .rng1 c => (match ex with
    | .Call (.Name x _) [a] [] _ => decide (x = "range") && bltB G sc x && chkE sc false a c && noStar a
    | _ => false)
  | sc, _, ex, .rng2 c d => (match ex with
    | .Call (.Name x _) [a, b] [] _ => decide (x = "range") && bltB G sc x && chkE sc false a c && chkE sc false b d && noStar a && noStar b
    | _ => false)
  | sc, tg, ex, .enm c => (match ex with
    | .Call (.Name x _) [a] [] _ => decide (x = "enumerate") && bltB G sc x && chkE sc false a c && noStar a && isTup tg
    | _ => false)
  | sc, tg, ex, .zp c d => (match ex with
    | .Call (.Name x _) [a, b] [] _ => decide (x = "zip") && bltB G sc x && chkE sc false a c && chkE sc false b d && noStar a && noStar b && isTup tg
    | _ => false)
end
end
end Rh

set_option Elab.async false
set_option linter.all false
set_option maxRecDepth 100000
set_option maxHeartbeats 2000000
/-! The core code is what the text does: expressions. -/
namespace Rh
open PySem PySem.Spec PyProof.Rows L2
theorem star_of {e : Expr} {es : List Expr} {env : Env} (h : noStar e = true) : starEach (e :: es) env = (false, eval e env) :: starEach es env := by
  cases e <;> first | rfl | cases h
theorem stars_of : ∀ {es : List Expr} {env : Env} {pos : Pos}, es.all noStar = true → (backTo pos (starEach es env)).any (·.1) = false
  | [], _, _, _ => rfl
  | e :: es, env, pos, h => by
    rw [List.all_cons, Bool.and_eq_true] at h
    rw [star_of h.1]
    have ih := stars_of (env := env) (pos := pos) h.2
    simpa [backTo] using ih
theorem plain_of {a : Expr} {env : Env} (h : plainT a = true) : ∀ whole, isTrue a env whole = (do let v ← whole; standAt a.pos; holding [v] (truthy v)) := by
  intro whole
  cases a with
  | UnaryOp op x p => cases op <;> first | rfl | cases h
  | BoolOp _ _ _ => cases h
  | IfExp _ _ _ _ => cases h
  | Compare _ _ _ _ => cases h
  | _ => rfl
theorem ix_of {a : Expr} (h : noSlice a = true) : PlainIx a := by
  intro o i
  cases a <;> first | rfl | cases h
theorem sl_of {a : Expr} (h : noSlice a = true) : NoSl a := by
  intro o i
  cases a <;> first | rfl | cases h
theorem set_of {a : Expr} {env : Env} (h : noSet a = true) : ∀ x, foldedSetIterable a env x = pure x := by
  intro x
  cases a <;> first | rfl | cases h
theorem mark_of {op : CmpOp} {a : Expr} (h : noSet a = true) : behindInMarks op a = false := by
  cases a <;> first | rfl | cases h
theorem marks_of {o1 o2 : CmpOp} {a b : Expr} (h : noSet b = true) : lastMarks [o1, o2] [a, b] = false := by
  show behindInMarks o2 b = false
  exact mark_of h
theorem base_of {o : Expr} {x : Str} {env : Env} (h : noCall o = true) : attributeBase o x env (eval o env) = eval o env := by
  cases o <;> first | rfl | cases h
theorem vis_of {sc : Scope} {x : Str} (h : visB sc x = true) : Vis sc x := by
  unfold visB at h
  split at h
  · exact .inl (by assumption)
  · exact .inr (.inl (by assumption))
  · exact .inr (.inr (by assumption))
  · cases h
theorem loc_of {sc : Scope} {x : Str} (h : locB sc x = true) : Loc sc x := by
  unfold locB at h
  split at h
  · exact .inl (by assumption)
  · exact .inr (by assumption)
  · cases h
theorem gl_of {X : Cx} {x : Str} (h : glB X.env.scope x = true) : Gl X x := by
  unfold glB at h
  split at h
  · assumption
  · cases h
theorem nm_of {N : List Str} {i : Nat} {x : Str} (h : nmB N i x = true) : N[i]? = some x := by
  unfold nmB at h
  split at h
  · rename_i y e
    rw [of_decide_eq_true h]
    exact e
  · cases h
theorem okN_of {x : Str} (h : okN x = true) : (x == ("__debug__" : Str)) = false ∧ (x == ("__classdict__" : Str)) = false := by
  unfold okN at h
  rw [Bool.and_eq_true, Bool.not_eq_true', Bool.not_eq_true'] at h
  exact h
theorem st_of {so sc : Scope} {x : Str} (h : stB so sc x = true) : so.names.lookup x = some .cell ∨ sc.names.lookup x = some .local := by
  unfold stB at h
  split at h
  · exact .inr (by assumption)
  · split at h
    · exact .inl (by assumption)
    · cases h
theorem boot_ty : ∀ T ∈ tyL, bootBuiltins (Str.ofString T) = some (.type T) ∧ Str.ofString T ≠ "__name__" ∧ (Str.ofString T == ("__debug__" : Str)) = false := by decide +kernel
/-- what an expression may lean on -/
structure Okx (X : Cx) (m : Mo) (G : Gs) : Prop where
  calm : X.calm = true
  room : X.A.units + 100 < cLine
  nod : X.N.Nodup
  tk : Takes X m.W
  bl : ∀ x ∈ G.bls, X.mg x = none
  fn : ∀ x ∈ G.fns, FnI X m x
  gc : ∀ x ∈ G.gcs, GcI X m x
  gt : ∀ x ∈ G.gts, GtI X m x
section
variable {G : Gs} {N : List Str}
theorem Okx.blk {X : Cx} {m : Mo} (K : Okx X m G) {s : Shared} {H : Hp} {scope : Scope} {env : Env} {fp : List Addr} : Okx (X.blk s H scope env fp) m.nox G where
  calm := K.calm
  room := K.room
  nod := K.nod
  tk := fun u s' ⟨a, B, sI, pins, σ, H, cls, d, e, I, nb, up, sky, na, os, ag, w⟩ => w.elim
  bl := K.bl
  fn := fun x hx => ⟨(K.fn x hx).ex, (K.fn x hx).db⟩
  gc := fun x hx => ⟨(K.gc x hx).ex, (K.gc x hx).db⟩
  gt := fun x hx => ⟨(K.gt x hx).ex, (K.gt x hx).db⟩
/-- as a value, or as a test -/
def PX (X : Cx) (m : Mo) (t : Bool) (e : Expr) (c : DE) : Prop := match t with
  | true => PT X e (TB X m c)
  | false => PE X e (T X m c)
theorem px_plain {X : Cx} {m : Mo} {t : Bool} {e : Expr} {c : DE} (hp : plainT e = true) (h : PE X e (T X m c)) : PX X m t e c := by
  cases t with
  | false => exact h
  | true => exact t_plain h (plain_of hp)
theorem rzb_bool {X : Cx} {m : Mo} {F H : Hp} {σ : L2.St} {r : Res PyData} {Q : Bool → Hp → Prop} (hb : ∀ d, r = .ok d → ∃ k, d = .bool k) (h : RzB X m σ F H (r.bind fun x => .ofO (truth x)) Q) : Rz X m σ F H r fun v H' => ∃ k, v = .bl k ∧ Q k H' := by
  cases r with
  | ok d =>
    obtain ⟨k, rfl⟩ := hb d rfl
    intro v F1 H1 x r
    cases r
    exact ⟨k, rfl, h F1 H1 x⟩
  | err z => exact h
  | stuck => exact h
theorem t_inG {X : Cx} {m : Mo} {no : Bool} {op : CmpOp} {x : Str} {l : Expr} {a : DE} {p pos : Pos} (ho : op = if no then .NotIn else .In) (hu : X.A.units + 100 < cLine) (h1 : PE X l (T X m a)) (hg : Gl X x) (hx : GtI X m x) (hm : behindInMarks op (.Name x p) = false) : PT X (.Compare l [op] [.Name x p] pos) (TB X m (.inG no a x)) := by
  obtain ⟨⟨ys, b, e1, e2, rp⟩, db⟩ := hx
  subst ho
  refine (pt_cmpR (in_ok no hu) h1 (pe_glob (v := .ref b) hg e2 rfl db) hm).imp fun σ H Q ⟨F, δ, E, h⟩ => inG_read e1 rp E (rzb_bool (fun d hd => ?_) h)
  simp only [ev] at hd
  cases ea : ev m.g m.f a δ with
  | ok y =>
    rw [ea, e1] at hd
    have hd : Res.ofO ((inD y ys).map fun k => PyData.bool (if no then !k else k)) = .ok d := hd
    cases ek : inD y ys with
    | none =>
      rw [ek] at hd
      cases hd
    | some k =>
      rw [ek] at hd
      cases hd
      exact ⟨_, rfl⟩
  | err z =>
    rw [ea] at hd
    cases hd
  | stuck =>
    rw [ea] at hd
    cases hd
theorem e_any {X : Cx} {m : Mo} {e : Expr} : PE X e (T X m .any) := ⟨fun pins s σ H Q I ⟨F, δ, E, h⟩ => h.elim⟩
theorem t_any {X : Cx} {m : Mo} {e : Expr} : PT X e (TB X m .any) := ⟨fun pins s σ H Q I ⟨F, δ, E, h⟩ => h.elim⟩
theorem g1_of {X : Cx} {so : Scope} {e : Expr} {i : Nat} (hn : X.N.Nodup) (hf : ∀ x, so.names.lookup x = some .cell → X.fn x = true) (h : chkG1 X.N so X.env.scope e i = true) : PG X e (gName i) := by
  unfold chkG1 at h
  split at h
  · rw [Bool.and_eq_true, Bool.and_eq_true] at h
    refine pg_name hn (nm_of h.1.1) (loc_of h.1.2) ?_
    rcases st_of h.2 with z | z
    · exact .inl (hf _ z)
    · exact .inr z
  · cases h
theorem gs_of {X : Cx} {so : Scope} (hn : X.N.Nodup) (hf : ∀ x, so.names.lookup x = some .cell → X.fn x = true) : ∀ (es : List Expr) (is : List Nat), chkGs X.N so X.env.scope es is = true →
    PGs X es (gNames is) ∧ (assignEach es X.env).length = is.length ∧ (assignEach es X.env).findIdx? (·.1) = none
  | [], [], _ => ⟨pgs_nil, rfl, rfl⟩
  | e :: es, i :: is, h => by
    unfold chkGs at h
    rw [Bool.and_eq_true] at h
    obtain ⟨h1, h2, h3⟩ := gs_of hn hf es is h.2
    have g1 := g1_of hn hf h.1
    have ex : ∃ x p, e = .Name x p := by
      have z := h.1
      unfold chkG1 at z
      split at z
      · exact ⟨_, _, rfl⟩
      · cases z
    obtain ⟨x, p, rfl⟩ := ex
    refine ⟨pgs_cons g1 h1 rfl, ?_, ?_⟩
    · show (assignEach es X.env).length + 1 = is.length + 1
      rw [h2]
    · show ((false, assign (.Name x p) X.env) :: assignEach es X.env).findIdx? (·.1) = none
      rw [List.findIdx?_cons]
      simp [h3]
  | [], _ :: _, h => by cases h
  | _ :: _, [], h => by cases h
theorem g_of {X : Cx} {so : Scope} {e : Expr} {t : Tg} (hc : X.calm = true) (hn : X.N.Nodup) (hf : ∀ x, so.names.lookup x = some .cell → X.fn x = true) (h : chkG X.N so X.env.scope e t = true) : PG X e (gT X.K t) := by
  unfold chkG at h
  split at h
  · exact g1_of hn hf h
  · obtain ⟨h1, h2, h3⟩ := gs_of hn hf _ _ h
    exact pg_tup hc h1 h2 h3
  · cases h
end
end Rh

set_option Elab.async false
set_option linter.all false
set_option maxRecDepth 100000
set_option maxHeartbeats 4000000
/-! The core code is what the text does: expressions, all together. -/
namespace Rh
open PySem PySem.Spec PyProof.Rows L2
section
variable {G : Gs}
theorem own_slots (N : List Str) (t : Tg) : (ownOf N t).map (·.2) = slots t := by
  unfold ownOf
  rw [List.map_map]
  have e : ((fun x : Str × Nat => x.2) ∘ fun i => (N.getD i "", i)) = id := rfl
  rw [e, List.map_id]
theorem blt_of {X : Cx} {m : Mo} (K : Okx X m G) {x : Str} (h : bltB G X.env.scope x = true) : Gl X x ∧ X.mg x = none := by
  unfold bltB at h
  rw [Bool.and_eq_true] at h
  exact ⟨gl_of h.1, K.bl x (of_decide_eq_true h.2)⟩
theorem var_of {X : Cx} {i : Nat} {x : Str} (h : varB X.N X.env.scope i x = true) : X.N[i]? = some x ∧ Vis X.env.scope x ∧ (x == ("__debug__" : Str)) = false ∧ (x == ("__classdict__" : Str)) = false := by
  unfold varB at h
  rw [Bool.and_eq_true, Bool.and_eq_true] at h
  exact ⟨nm_of h.1.1, vis_of h.1.2, okN_of h.2⟩
/-- the parts of a comprehension -/
structure LcOk (X : Cx) (m : Mo) (e : Expr) (t : Tg) (it : IT) (c : DO) (el : DE) : Prop where
  ex : ∃ (elt tg iter : Expr) (ifs : List Expr) (scope : Scope) (pos : Pos) (own : List (Str × Nat)), e = .ListComp elt [⟨tg, iter, ifs, 0⟩] scope pos ∧ (pairs it = true → isMany t = true) ∧ PI X tg iter (TIt X m it) ∧ BlkOk X.N X.env.scope scope own ∧ own.map (·.2) = slots t ∧
    (∀ (s : Shared) (H : Hp) (C : Addr) (cl : List (Str × Addr)) (fp : List Addr), PG (X.blk s H scope (compEnvC scope cl C X.env) fp) tg (gT X.K t)) ∧
    (∀ (s : Shared) (H : Hp) (C : Addr) (cl : List (Str × Addr)) (fp : List Addr), PTs (X.blk s H scope (compEnvC scope cl C X.env) fp) ifs (TBo X m.nox c)) ∧
    (∀ (s : Shared) (H : Hp) (C : Addr) (cl : List (Str × Addr)) (fp : List Addr), PE (X.blk s H scope (compEnvC scope cl C X.env) fp) elt (T X m.nox el)) ∧ ∀ x, foldedSetIterable iter X.env x = pure x
theorem LcOk.pe {X : Cx} {m : Mo} {e : Expr} {t : Tg} {it : IT} {c : DO} {el : DE} (K : Okx X m G) (h : LcOk X m e t it c el) : PE X e (T X m (.lc t it c el)) ∧ plainT e = true := by
  obtain ⟨elt, tg, iter, ifs, scope, pos, own, rfl, h1, h2, h3, h4, h5, h6, h7, h8⟩ := h.ex
  exact ⟨e_lc h1 K.calm K.nod h2 h3 h4 h5 h6 h7 h8, rfl⟩
theorem keys_all : ∀ {keys : List (Option Expr)} {ks : List Str}, keysB keys ks = true → keys.all (·.isSome) = true
  | [], _, _ => rfl
  | k :: r, ks, h => by
    unfold keysB at h
    split at h
    · rename_i e1
      cases e1
    · rename_i e1
      cases e1
      rw [Bool.and_eq_true] at h
      rw [List.all_cons, keys_all h.2]
      rfl
    · cases h
theorem keys_len : ∀ {keys : List (Option Expr)} {ks : List Str}, keysB keys ks = true → keys.length = ks.length
  | [], ks, h => by
    cases ks with
    | nil => rfl
    | cons _ _ => cases h
  | k :: r, ks, h => by
    unfold keysB at h
    split at h
    · rename_i e1
      cases e1
    · rename_i e1
      cases e1
      rw [Bool.and_eq_true] at h
      rw [List.length_cons, List.length_cons, keys_len h.2]
    · cases h
theorem stars_A {N : List Str} {sc : Scope} : ∀ {cs : DEs} {es : List Expr}, chkA G N sc es cs = true → es.all noStar = true
  | .nil, es, h => by
    simp only [chkA] at h
    cases es with
    | nil => rfl
    | cons _ _ => cases h
  | .cons c cs, es, h => by
    simp only [chkA] at h
    split at h
    · cases h
    · simp only [Bool.and_eq_true] at h
      rw [List.all_cons, h.1.2, stars_A h.2]
      rfl
mutual
theorem sndE {N : List Str} : ∀ (c : DE) (X : Cx) (m : Mo) (t : Bool) (e : Expr), Okx X m G → X.N = N → chkE G N X.env.scope t e c = true → PX X m t e c
  | .any, X, m, t, e, K, hN, h => by
    cases t with
    | true => exact t_any
    | false => exact e_any
  | .var i, X, m, t, e, K, hN, h => by
    subst hN
    simp only [chkE] at h
    split at h
    · obtain ⟨h1, h2, h3, h4⟩ := var_of h
      exact px_plain rfl (e_var h1 h2 h3 h4)
    · cases h
  | .int n, X, m, t, e, K, hN, h => by
    simp only [chkE] at h
    split at h
    · rw [of_decide_eq_true h]
      exact px_plain rfl e_int
    · cases h
  | .neg n, X, m, t, e, K, hN, h => by
    simp only [chkE] at h
    split at h
    · rw [of_decide_eq_true h]
      exact px_plain rfl e_neg
    · cases h
  | .str n, X, m, t, e, K, hN, h => by
    simp only [chkE] at h
    split at h
    · rw [of_decide_eq_true h]
      exact px_plain rfl e_str
    · cases h
  | .bl n, X, m, t, e, K, hN, h => by
    simp only [chkE] at h
    split at h
    · rw [eq_of_beq h]
      exact px_plain rfl e_bl
    · cases h
  | .non, X, m, t, e, K, hN, h => by
    simp only [chkE] at h
    split at h
    · exact px_plain rfl e_non
    · cases h
  | .glob y, X, m, t, e, K, hN, h => by
    simp only [chkE] at h
    split at h
    · simp only [Bool.and_eq_true, decide_eq_true_eq] at h
      obtain ⟨⟨h1, h2⟩, h3⟩ := h
      subst h1
      exact px_plain rfl (e_glob (gl_of h2) (K.gc _ h3))
    · cases h
  | .tup cs, X, m, t, e, K, hN, h => by
    simp only [chkE] at h
    split at h
    · exact px_plain rfl (e_tup (sndA cs X m _ K hN h))
    · cases h
  | .lst cs, X, m, t, e, K, hN, h => by
    simp only [chkE] at h
    split at h
    · exact px_plain rfl (e_lst (sndA cs X m _ K hN h))
    · cases h
  | .bin op a b, X, m, t, e, K, hN, h => by
    simp only [chkE] at h
    split at h
    · simp only [Bool.and_eq_true, decide_eq_true_eq] at h
      obtain ⟨⟨h1, h2⟩, h3⟩ := h
      subst h1
      exact px_plain rfl (e_bin (sndE a X m false _ K hN h2) (sndE b X m false _ K hN h3))
    · cases h
  | .cmp op a b, X, m, t, e, K, hN, h => by
    simp only [chkE] at h
    split at h
    · simp only [Bool.and_eq_true, decide_eq_true_eq] at h
      obtain ⟨⟨⟨h1, h2⟩, h3⟩, h4⟩ := h
      subst h1
      have p1 := sndE a X m false _ K hN h2
      have p2 := sndE b X m false _ K hN h3
      cases t with
      | true => exact t_cmp K.room p1 p2 (mark_of h4)
      | false => exact e_cmp K.room p1 p2 (mark_of h4)
    · cases h
  | .chain o1 o2 a b c, X, m, t, e, K, hN, h => by
    simp only [chkE] at h
    split at h
    · simp only [Bool.and_eq_true, decide_eq_true_eq] at h
      obtain ⟨⟨⟨⟨⟨⟨h1, h2⟩, h3⟩, h4⟩, h5⟩, h6⟩, h7⟩ := h
      subst h1 h2
      have p1 := sndE a X m false _ K hN h3
      have p2 := sndE b X m false _ K hN h4
      have p3 := sndE c X m false _ K hN h5
      cases t with
      | true => exact t_chain K.room p1 p2 p3 (marks_of h7)
      | false => exact e_chain K.room p1 p2 p3 (marks_of h7)
    · cases h
  | .inG no a x, X, m, t, e, K, hN, h => by
    simp only [chkE] at h
    split at h
    · simp only [Bool.and_eq_true, decide_eq_true_eq] at h
      obtain ⟨⟨⟨⟨h1, h2⟩, h3⟩, h4⟩, h5⟩ := h
      subst h2
      have p1 := sndE a X m false _ K hN h5
      cases t with
      | true => exact t_inG h1 K.room p1 (gl_of h3) (K.gt _ h4) rfl
      | false => exact e_inG h1 K.room p1 (gl_of h3) (K.gt _ h4) rfl
    · cases h
  | .nt a, X, m, t, e, K, hN, h => by
    simp only [chkE] at h
    split at h
    · have p1 := sndE a X m t _ K hN h
      cases t with
      | true => exact t_not p1
      | false => exact e_not p1
    · cases h
  | .bop op es, X, m, t, e, K, hN, h => by
    simp only [chkE] at h
    split at h
    · simp only [Bool.and_eq_true, decide_eq_true_eq] at h
      obtain ⟨h1, h2⟩ := h
      subst h1
      have p1 := sndB es X m t _ K hN h2
      cases t with
      | true => exact t_bop (p1.1 rfl _ _)
      | false => exact e_bop (p1.2 rfl _ _)
    · cases h
  | .ite c a b, X, m, t, e, K, hN, h => by
    simp only [chkE] at h
    split at h
    · simp only [Bool.and_eq_true, Bool.not_eq_true'] at h
      obtain ⟨⟨⟨h1, h2⟩, h3⟩, h4⟩ := h
      subst h1
      exact e_ite (sndE c X m true _ K hN h2) (sndE a X m false _ K hN h3) (sndE b X m false _ K hN h4)
    · cases h
  | .ix a b, X, m, t, e, K, hN, h => by
    simp only [chkE] at h
    split at h
    · simp only [Bool.and_eq_true] at h
      obtain ⟨⟨h1, h2⟩, h3⟩ := h
      exact px_plain rfl (e_ix (sndE a X m false _ K hN h1) (sndE b X m false _ K hN h2) (ix_of h3))
    · cases h
  | .sl a cl ch, X, m, t, e, K, hN, h => by
    simp only [chkE] at h
    split at h
    · simp only [Bool.and_eq_true] at h
      obtain ⟨⟨h1, h2⟩, h3⟩ := h
      exact px_plain rfl (e_sl (sndE a X m false _ K hN h1) (sndO cl X m _ K hN h2) (sndO ch X m _ K hN h3))
    · cases h
  | .tl0 a, X, m, t, e, K, hN, h => by
    simp only [chkE] at h
    split at h
    · simp only [Bool.and_eq_true, decide_eq_true_eq] at h
      obtain ⟨⟨h1, h2⟩, h3⟩ := h
      subst h1 h2
      exact px_plain rfl (e_tl0 (sndE a X m false _ K hN h3))
    · cases h
  | .rev a, X, m, t, e, K, hN, h => by
    simp only [chkE] at h
    split at h
    · simp only [Bool.and_eq_true, decide_eq_true_eq] at h
      obtain ⟨h1, h2⟩ := h
      subst h1
      exact px_plain rfl (e_rev (sndE a X m false _ K hN h2))
    · cases h
  | .disp ks vs i, X, m, t, e, K, hN, h => by
    simp only [chkE] at h
    split at h
    · simp only [Bool.and_eq_true, decide_eq_true_eq] at h
      obtain ⟨⟨⟨⟨⟨⟨⟨h1, h2⟩, h3⟩, h4⟩, h5⟩, h6⟩, h7⟩, h8⟩ := h
      refine px_plain rfl (e_disp K.room (sndP vs X m _ _ ks K hN h1 h2 h6) ?_ h2 ?_ h4 ?_ h5 (sndE i X m false _ K hN h7) (sl_of h8))
      · exact keys_all h1
      · intro z
        subst z
        cases h3
      · rw [← keys_len h1]
        exact h4
    · cases h
  | .call f es, X, m, t, e, K, hN, h => by
    simp only [chkE] at h
    split at h
    · simp only [Bool.and_eq_true, decide_eq_true_eq] at h
      obtain ⟨⟨⟨h1, h2⟩, h3⟩, h4⟩ := h
      subst h1
      have hs := stars_A h4
      rw [List.all_cons, Bool.and_eq_true] at hs
      exact px_plain rfl (e_call K.tk (K.fn _ h2) (gl_of h3) (sndA es X m _ K hN h4) (star_of hs.1) (stars_of hs.2))
    · cases h
  | .bi1 f c, X, m, t, e, K, hN, h => by
    simp only [chkE] at h
    split at h
    · simp only [Bool.and_eq_true, decide_eq_true_eq] at h
      obtain ⟨⟨⟨⟨h1, h2⟩, h3⟩, h4⟩, h5⟩ := h
      obtain ⟨g1, g2⟩ := blt_of K h3
      exact px_plain rfl (e_bi1 K.calm K.room h2 h1 g1 g2 (sndE c X m false _ K hN h4) (star_of h5))
    · cases h
  | .mn2 a b, X, m, t, e, K, hN, h => by
    simp only [chkE] at h
    split at h
    · simp only [Bool.and_eq_true, decide_eq_true_eq] at h
      obtain ⟨⟨⟨⟨⟨h1, h2⟩, h3⟩, h4⟩, h5⟩, h6⟩ := h
      subst h1
      obtain ⟨g1, g2⟩ := blt_of K h2
      exact px_plain rfl (e_mn2 K.calm K.room g1 g2 (sndE a X m false _ K hN h3) (sndE b X m false _ K hN h4) (star_of h5) (star_of h6) (stars_of (by rw [List.all_cons, h6]; rfl)))
    · cases h
  | .isi c T', X, m, t, e, K, hN, h => by
    simp only [chkE] at h
    split at h
    · simp only [Bool.and_eq_true, decide_eq_true_eq] at h
      obtain ⟨⟨⟨⟨⟨⟨h1, h2⟩, h3⟩, h4⟩, h5⟩, h6⟩, h7⟩ := h
      subst h1 h5
      obtain ⟨g1, g2⟩ := blt_of K h2
      obtain ⟨g3, g4⟩ := blt_of K h3
      obtain ⟨b1, b2, b3⟩ := boot_ty T' h4
      exact px_plain rfl (e_isi h4 rfl g1 g2 g3 g4 b1 b2 b3 (sndE c X m false _ K hN h6) (star_of h7) rfl rfl)
    · cases h
  | .cnt a b, X, m, t, e, K, hN, h => by
    simp only [chkE] at h
    split at h
    · simp only [Bool.and_eq_true, decide_eq_true_eq] at h
      obtain ⟨⟨⟨⟨⟨h1, h2⟩, h3⟩, h4⟩, h5⟩, h6⟩ := h
      subst h1
      refine px_plain rfl (e_cnt (sndE a X m false _ K hN h4) (sndE b X m false _ K hN h5) (base_of h3) ?_ h2 (star_of h6))
      rw [star_of h6]
      rfl
    · cases h
  | .tupRg c, X, m, t, e, K, hN, h => by
    simp only [chkE] at h
    split at h
    · simp only [Bool.and_eq_true, decide_eq_true_eq] at h
      obtain ⟨⟨⟨⟨⟨h1, h2⟩, h3⟩, h4⟩, h5⟩, h6⟩ := h
      subst h1 h2
      obtain ⟨g1, g2⟩ := blt_of K h3
      obtain ⟨g3, g4⟩ := blt_of K h4
      exact px_plain rfl (e_tupRg K.calm g1 g2 g3 g4 (sndE c X m false _ K hN h5) (star_of h6) rfl)
    · cases h
  | .lstRg c, X, m, t, e, K, hN, h => by
    simp only [chkE] at h
    split at h
    · simp only [Bool.and_eq_true, decide_eq_true_eq] at h
      obtain ⟨⟨⟨⟨⟨h1, h2⟩, h3⟩, h4⟩, h5⟩, h6⟩ := h
      subst h1 h2
      obtain ⟨g1, g2⟩ := blt_of K h3
      obtain ⟨g3, g4⟩ := blt_of K h4
      exact px_plain rfl (e_lstRg K.calm g1 g2 g3 g4 (sndE c X m false _ K hN h5) (star_of h6) rfl)
    · cases h
  | .lc tg it c el, X, m, t, e, K, hN, h => by
    have z : LcOk X m e tg it c el := by
      subst hN
      simp only [chkE] at h
      split at h
      · simp only [Bool.and_eq_true] at h
        obtain ⟨⟨⟨⟨⟨⟨h1, h2⟩, h3⟩, h4⟩, h5⟩, h6⟩, h7⟩ := h
        rename_i elt tge iter ifs scope pos
        refine ⟨elt, tge, iter, ifs, scope, pos, ownOf X.N tg, rfl, ?_, sndI it X m _ _ K rfl h3, blkOk_by h2, own_slots _ _, fun s H C cl fp => ?_, fun s H C cl fp => ?_, fun s H C cl fp => ?_, set_of h7⟩
        · intro z
          rw [z] at h1
          simpa using h1
        · exact g_of (X := X.blk s H scope (compEnvC scope cl C X.env) fp) (so := scope) K.calm K.nod (fun x hx => by show (scope.names.lookup x == some .cell) = true; rw [hx]; rfl) h4
        · exact sndC c (X.blk s H scope (compEnvC scope cl C X.env) fp) m.nox _ K.blk rfl h5
        · exact sndE el (X.blk s H scope (compEnvC scope cl C X.env) fp) m.nox false _ K.blk rfl h6
      · cases h
    obtain ⟨p1, p2⟩ := z.pe K
    exact px_plain p2 p1
  | .lenO i, X, m, t, e, K, hN, h => by
    subst hN
    simp only [chkE] at h
    split at h
    · simp only [Bool.and_eq_true, decide_eq_true_eq] at h
      obtain ⟨⟨h1, h2⟩, h3⟩ := h
      subst h1
      obtain ⟨g1, g2⟩ := blt_of K h2
      obtain ⟨v1, v2, v3, v4⟩ := var_of h3
      exact px_plain rfl (e_lenO v1 v2 v3 v4 g1 g2 rfl)
    · cases h
  | .ixO i c, X, m, t, e, K, hN, h => by
    subst hN
    simp only [chkE] at h
    split at h
    · simp only [Bool.and_eq_true, decide_eq_true_eq] at h
      obtain ⟨⟨h1, h2⟩, h3⟩ := h
      obtain ⟨v1, v2, v3, v4⟩ := var_of h1
      exact px_plain rfl (e_ixO K.room v1 v2 v3 v4 (sndE c X m false _ K rfl h2) (ix_of h3))
    · cases h
  | .truO i, X, m, t, e, K, hN, h => by
    subst hN
    simp only [chkE] at h
    rw [Bool.and_eq_true] at h
    obtain ⟨rfl, h⟩ := h
    split at h
    · obtain ⟨v1, v2, v3, v4⟩ := var_of h
      exact e_truO v1 v2 v3 v4
    · cases h
  | .lenS c, X, m, t, e, K, hN, h => by
    simp only [chkE] at h
    split at h
    · simp only [Bool.and_eq_true, decide_eq_true_eq] at h
      obtain ⟨⟨⟨⟨⟨h1, h2⟩, h3⟩, h4⟩, h5⟩, h6⟩ := h
      subst h1 h2
      obtain ⟨g1, g2⟩ := blt_of K h3
      obtain ⟨g3, g4⟩ := blt_of K h4
      exact px_plain rfl (e_lenS K.calm g1 g2 g3 g4 (sndE c X m false _ K hN h5) (star_of h6))
    · cases h
  | .sset c, X, m, t, e, K, hN, h => by
    simp only [chkE] at h
    split at h
    · simp only [Bool.and_eq_true, decide_eq_true_eq] at h
      obtain ⟨⟨⟨⟨⟨h1, h2⟩, h3⟩, h4⟩, h5⟩, h6⟩ := h
      subst h1 h2
      obtain ⟨g1, g2⟩ := blt_of K h3
      obtain ⟨g3, g4⟩ := blt_of K h4
      exact px_plain rfl (e_sset K.calm K.room g1 g2 g3 g4 (sndE c X m false _ K hN h5) (star_of h6))
    · cases h
  | .idx i c, X, m, t, e, K, hN, h => by
    subst hN
    simp only [chkE] at h
    split at h
    · simp only [Bool.and_eq_true, decide_eq_true_eq] at h
      obtain ⟨⟨⟨⟨h1, h2⟩, h3⟩, h4⟩, h5⟩ := h
      subst h1
      obtain ⟨v1, v2, v3, v4⟩ := var_of h3
      exact px_plain rfl (e_idx v1 v2 v3 v4 (sndE c X m false _ K rfl h4) (star_of h5) h2)
    · cases h
  | .mx2 _ _, X, m, t, e, K, hN, h => by simp only [chkE] at h; cases h
  | .inO _ _ _, X, m, t, e, K, hN, h => by simp only [chkE] at h; cases h
theorem sndA {N : List Str} : ∀ (cs : DEs) (X : Cx) (m : Mo) (es : List Expr), Okx X m G → X.N = N → chkA G N X.env.scope es cs = true → PA X es (TL X m cs)
  | .nil, X, m, es, K, hN, h => by
    simp only [chkA] at h
    cases es with
    | nil => exact a_nil
    | cons _ _ => cases h
  | .cons c cs, X, m, es, K, hN, h => by
    simp only [chkA] at h
    split at h
    · cases h
    · simp only [Bool.and_eq_true] at h
      obtain ⟨⟨h1, h2⟩, h3⟩ := h
      exact a_cons (sndE c X m false _ K hN h1) (sndA cs X m _ K hN h3) (star_of h2)
theorem sndP {N : List Str} : ∀ (cs : DEs) (X : Cx) (m : Mo) (keys : List (Option Expr)) (es : List Expr) (ks : List Str) {pos : Pos}, Okx X m G → X.N = N → keysB keys ks = true → keys.length = es.length → chkA G N X.env.scope es cs = true → PPs X pos keys es (dTr X m ks cs)
  | .nil, X, m, keys, es, ks, pos, K, hN, hk, hl, h => by
    simp only [chkA] at h
    cases es with
    | nil =>
      cases keys with
      | nil =>
        cases ks with
        | nil => exact pps_nil
        | cons _ _ => cases hk
      | cons _ _ => cases hl
    | cons _ _ => cases h
  | .cons c cs, X, m, keys, es, ks, pos, K, hN, hk, hl, h => by
    simp only [chkA] at h
    split at h
    · cases h
    · simp only [Bool.and_eq_true] at h
      obtain ⟨⟨h1, h2⟩, h3⟩ := h
      unfold keysB at hk
      split at hk
      · cases hl
      · simp only [Bool.and_eq_true, decide_eq_true_eq] at hk
        obtain ⟨k1, k2⟩ := hk
        subst k1
        exact pps_cons pe_str (sndE c X m false _ K hN h1) (sndP cs X m _ _ _ K hN k2 (Nat.succ.inj hl) h3)
      · cases hk
theorem sndB {N : List Str} : ∀ (cs : DEs) (X : Cx) (m : Mo) (t : Bool) (es : List Expr), Okx X m G → X.N = N → chkB G N X.env.scope t es cs = true →
    (t = true → ∀ op pos, PW X (.BoolOp op es pos) (TBb X m op cs)) ∧ (t = false → ∀ op pos, PE X (.BoolOp op es pos) (Tb X m op cs))
  | .nil, X, m, t, es, K, hN, h => by simp only [chkB] at h; cases h
  | .cons c cs, X, m, t, es, K, hN, h => by
    simp only [chkB] at h
    split at h
    · cases h
    · rename_i e r
      rw [Bool.and_eq_true] at h
      obtain ⟨h1, h2⟩ := h
      have p1 := sndE c X m t _ K hN h1
      cases cs with
      | nil =>
        cases r with
        | nil =>
          refine ⟨fun ht op pos => ?_, fun ht op pos => ?_⟩
          · subst ht
            exact w_one p1
          · subst ht
            exact b_one p1
        | cons _ _ => cases h2
      | cons c2 cs2 =>
        have h3 : chkB G N X.env.scope t r (.cons c2 cs2) = true := h2
        have p2 := sndB (.cons c2 cs2) X m t _ K hN h3
        cases r with
        | nil =>
          simp only [chkB] at h3
          cases h3
        | cons e2 r2 =>
          refine ⟨fun ht op pos => ?_, fun ht op pos => ?_⟩
          · have q := p2.1 ht op pos
            subst ht
            exact w_more p1 q
          · have q := p2.2 ht op pos
            subst ht
            exact b_more p1 q
theorem sndO {N : List Str} : ∀ (c : DO) (X : Cx) (m : Mo) (o : Option Expr), Okx X m G → X.N = N → chkO G N X.env.scope o c = true → PO X o (TP' X m c)
  | .no, X, m, o, K, hN, h => by
    simp only [chkO] at h
    cases o with
    | none => exact o_no
    | some _ => cases h
  | .some c, X, m, o, K, hN, h => by
    simp only [chkO] at h
    cases o with
    | none => cases h
    | some e => exact o_some (sndE c X m false _ K hN h)
theorem sndC {N : List Str} : ∀ (c : DO) (X : Cx) (m : Mo) (es : List Expr), Okx X m G → X.N = N → chkC G N X.env.scope es c = true → PTs X es (TBo X m c)
  | .no, X, m, es, K, hN, h => by
    simp only [chkC] at h
    cases es with
    | nil => exact c_no
    | cons _ _ => cases h
  | .some c, X, m, es, K, hN, h => by
    simp only [chkC] at h
    split at h
    · exact c_some (sndE c X m true _ K hN h)
    · cases h
theorem sndI {N : List Str} : ∀ (c : IT) (X : Cx) (m : Mo) (tg e : Expr), Okx X m G → X.N = N → chkI G N X.env.scope tg e c = true → PI X tg e (TIt X m c)
  | .seq c, X, m, tg, e, K, hN, h => by
    simp only [chkI] at h
    exact i_seq (sndE c X m false _ K hN h)
  | .rng1 c, X, m, tg, e, K, hN, h => by
    simp only [chkI] at h
    split at h
    · simp only [Bool.and_eq_true, decide_eq_true_eq] at h
      obtain ⟨⟨⟨h1, h2⟩, h3⟩, h4⟩ := h
      subst h1
      obtain ⟨g1, g2⟩ := blt_of K h2
      exact i_rng1 g1 g2 (sndE c X m false _ K hN h3) (star_of h4)
    · cases h
  | .rng2 c d, X, m, tg, e, K, hN, h => by
    simp only [chkI] at h
    split at h
    · simp only [Bool.and_eq_true, decide_eq_true_eq] at h
      obtain ⟨⟨⟨⟨⟨h1, h2⟩, h3⟩, h4⟩, h5⟩, h6⟩ := h
      subst h1
      obtain ⟨g1, g2⟩ := blt_of K h2
      exact i_rng2 g1 g2 (sndE c X m false _ K hN h3) (sndE d X m false _ K hN h4) (by rw [star_of h5, star_of h6]; rfl) (star_of h6)
    · cases h
  | .enm c, X, m, tg, e, K, hN, h => by
    simp only [chkI] at h
    split at h
    · simp only [Bool.and_eq_true, decide_eq_true_eq] at h
      obtain ⟨⟨⟨⟨h1, h2⟩, h3⟩, h4⟩, h5⟩ := h
      subst h1
      obtain ⟨g1, g2⟩ := blt_of K h2
      unfold isTup at h5
      split at h5
      · exact i_enm g1 g2 (sndE c X m false _ K hN h3) (star_of h4)
      · cases h5
    · cases h
  | .zp c d, X, m, tg, e, K, hN, h => by
    simp only [chkI] at h
    split at h
    · simp only [Bool.and_eq_true, decide_eq_true_eq] at h
      obtain ⟨⟨⟨⟨⟨⟨h1, h2⟩, h3⟩, h4⟩, h5⟩, h6⟩, h7⟩ := h
      subst h1
      obtain ⟨g1, g2⟩ := blt_of K h2
      unfold isTup at h7
      split at h7
      · exact i_zp g1 g2 (sndE c X m false _ K hN h3) (sndE d X m false _ K hN h4) (star_of h5) (star_of h6)
      · cases h7
    · cases h
end
end
end Rh

set_option Elab.async false
set_option linter.all false
set_option maxRecDepth 100000
set_option maxHeartbeats 4000000
/-! The core code is what the text does: statements. -/
namespace Rh
open PySem PySem.Spec PyProof.Rows L2
/-- the old value of x is swapped with the comprehension's -/
def swV (sc : Scope) (x : Str) (p : Pos) : Expr → Option Bool
  | .ListComp _ _ scope lp => some (decide (sc.names.lookup x = some .local) && p.line == lp.line && !(scope.names.any fun (n, k) => n == x && (k == .local || k == .cell)))
  | .SetComp _ _ _ _ => none
  | .DictComp _ _ _ _ _ => none
  | _ => some false
def noComp : Expr → Bool
  | .ListComp _ _ _ _ => false
  | .SetComp _ _ _ _ => false
  | .DictComp _ _ _ _ _ => false
  | _ => true
def noTup : Expr → Bool
  | .Tuple _ _ _ => false
  | _ => true
def isLc : DE → Bool
  | .lc _ _ _ _ => true
  | _ => false
theorem sw_of {env : Env} {x : Str} {p : Pos} {e : Expr} {l : Nat} {b : Bool} (hk : env.scope.kind = .function) (h : swV env.scope x p e = some b) : swapsWith e (some (.Name x p)) l env = pure b := by
  have hb : env.blockKind = .function := by
    unfold Env.blockKind
    rw [hk]
    rfl
  unfold swV at h
  split at h
  · cases h
    unfold swapsWith
    simp only [hb, Env.kindOf, Expr.pos]
    congr 1
    cases env.scope.names.lookup x with
    | none => rfl
    | some k => cases k <;> rfl
  · cases h
  · cases h
  · cases h
    rename_i h1 h2 h3
    cases e <;> first | rfl | exact absurd rfl (h1 _ _ _ _) | exact absurd rfl (h2 _ _ _ _) | exact absurd rfl (h3 _ _ _ _ _)
theorem sw_local {sc : Scope} {x : Str} {p : Pos} {e : Expr} (h : swV sc x p e = some true) : sc.names.lookup x = some .local := by
  unfold swV at h
  split at h
  · have z := Option.some.inj h
    simp only [Bool.and_eq_true, decide_eq_true_eq] at z
    exact z.1.1
  · cases h
  · cases h
  · cases h
theorem swN_of {env : Env} {e : Expr} {l : Nat} (h : noComp e = true) : swapsWith e none l env = pure false := by
  cases e <;> first | rfl | cases h
theorem swS_of {env : Env} {e o k : Expr} {p : Pos} {l : Nat} : swapsWith e (some (.Subscript o k p)) l env = pure false := by
  cases e <;> rfl
theorem swT_of {env : Env} {e : Expr} {es : List Expr} {k : Nat} {p : Pos} {l : Nat} : swapsWithSole [.Tuple es k p] e l env = pure false := by
  cases e <;> rfl
theorem stT_of {env : Env} {e : Expr} {es : List Expr} {k : Nat} {p : Pos} (h : noTup e = true) : swappedStores [.Tuple es k p] e env = pure none := by
  cases e <;> first | rfl | cases h
section
variable (G : Gs) (N : List Str) (sc : Scope)
def stoB (i : Nat) (x : Str) : Bool := nmB N i x && locB sc x && stB sc sc x
/-- what a try holds -/
def chkT : TrB → List Stmt → Bool
  | .ret c, sts => (match sts with
    | [.Return (some e) _] => chkE G N sc false e c
    | _ => false)
  | .expr c, sts => (match sts with
    | [.Expr e _] => noComp e && chkE G N sc false e c
    | _ => false)
  | .ite c a b, sts => (match sts with
    | [.If t x y _] => chkE G N sc true t c && chkT a x && chkT b y
    | _ => false)
/-- questions of an except clause -/
def chkIs (i : Nat) : List Expr → List Str → Bool
  | [], [] => true
  | .Call (.Name x _) [.Name n _, .Name C' _] [] _ :: es, C :: Cs => decide (x = "isinstance") && bltB G sc x && varB N sc i n && decide (C' = C) && ((decide (C ∈ G.hcs) && glB sc C) || (decide (C = "ValueError") && bltB G sc C)) && chkIs i es Cs
  | _, _ => false
def chkHE (i : Nat) : HE → Expr → Bool
  | .var j, e => (match e with
    | .Name x _ => varB N sc j x
    | _ => false)
  | .isl Cs, e => (match e with
    | .List es _ => chkIs G N sc i es Cs
    | _ => false)
  | .add a b, e => (match e with
    | .BinOp l .Add r _ => chkHE i a l && chkHE i b r
    | _ => false)
def chkHs (i : Nat) : List HS → List Stmt → Bool
  | [], sts => sts.isEmpty
  | .set j he :: r, sts => (match sts with
    | .Assign [.Name x _] e _ :: st => stoB N sc j x && decide (j ≠ i) && noComp e && chkHE G N sc i he e && chkHs i r st
    | _ => false)
  | .ret he :: _, sts => (match sts with
    | [.Return (some e) _] => chkHE G N sc i he e
    | _ => false)
mutual
def chkS : DS → Stmt → Bool
  | .any, _ => true
  | .tryE b es C i hh, st => (match st with
    | .Try body [.ExceptHandler (some (.Name x _)) (some n) (b₀ :: suite) _] [] [] _ => !G.exs.isEmpty && decide (x = C) && decide (C ∈ G.hcs) && glB sc C && es.all (fun z => decide (z ∈ G.exs)) && nmB N i n && decide (sc.names.lookup n = some .local) && chkT G N sc b body && chkHs G N sc i hh (b₀ :: suite)
    | _ => false)
  | .catO i c, st => (match st with
    | .Assign [.Name x _] (.BinOp (.Name y _) .Add e _) _ => decide (y = x) && stoB N sc i x && varB N sc i x && chkE G N sc false e c
    | _ => false)
  | .set i c, st => (match st with
    | .Assign [.Name x p] e _ => stoB N sc i x && chkE G N sc false e c && (match swV sc x p e with
      | none => false
      | some b => !b || isLc c)
    | _ => false)
  | .setT is c, st => (match st with
    | .Assign [.Tuple es k p] e _ => chkG N sc sc (.Tuple es k p) (.many is) && chkE G N sc false e c && noTup e
    | _ => false)
  | .newL i cs, st => (match st with
    | .Assign [.Name x _] (.List es _) _ => stoB N sc i x && chkA G N sc es cs
    | _ => false)
  | .newD i, st => (match st with
    | .Assign [.Name x _] (.Dict [] [] _) _ => stoB N sc i x
    | _ => false)
  | .app i c, st => (match st with
    | .Expr (.Call (.Attribute (.Name x _) a apos) [e] [] cpos) _ => decide (a = "append") && (apos.endLine == cpos.line) && varB N sc i x && chkE G N sc false e c && noStar e
    | _ => false)
  | .ext i c, st => (match st with
    | .Expr (.Call (.Attribute (.Name x _) a apos) [e] [] cpos) _ => decide (a = "extend") && (apos.endLine == cpos.line) && varB N sc i x && chkE G N sc false e c && noStar e
    | _ => false)
  | .dput i ck cv, st => (match st with
    | .Assign [.Subscript (.Name x _) k _] v _ => varB N sc i x && chkE G N sc false k ck && chkE G N sc false v cv
    | _ => false)
  | .aug i op c, st => (match st with
    | .AugAssign (.Name x _) o e _ => decide (o = op) && decide (op = .Add) && stoB N sc i x && chkE G N sc false e c
    | _ => false)
  | .expr c, st => (match st with
    | .Expr e _ => noComp e && chkE G N sc false e c
    | _ => false)
  | .ret c, st => (match st with
    | .Return (some e) _ => chkE G N sc false e c
    | _ => false)
  | .retN, st => (match st with
    | .Return none _ => true
    | _ => false)
  | .ite c a b, st => (match st with
    | .If t x y _ => chkE G N sc true t c && chkL a x && chkL b y
    | _ => false)
  | .for t it b, st => (match st with
    | .For tg iter body [] _ => (!pairs it || isMany t) && chkI G N sc tg iter it && chkG N sc sc tg t && noSet iter && chkL b body
    | _ => false)
  | .raise c ms, st => (match st with
    | .Raise (some (.Call (.Name x _) [.Constant (.str y) _ _] [] _)) none _ => decide (x = c) && decide (y = ms) && decide (x ∈ G.exs) && glB sc x
    | _ => false)
  | .frz _, _ => false
def chkL : List DS → List Stmt → Bool
  | [], sts => sts.isEmpty
  | c :: cs, sts => (match c with
    | .frz _ => chkL cs sts
    | _ => (match sts with
      | [] => false
      | st :: r => chkS c st && chkL cs r))
end
end
/-- what a statement may lean on, too -/
structure Oks (X : Cx) (m : Mo) (G : Gs) : Prop extends Okx X m G where
  ps : PassesOwn (model X.prog X.w) X.A X.env X.xe
  kind : X.env.scope.kind = .function
  fnc : ∀ x, X.env.scope.names.lookup x = some .cell → X.fn x = true
  stk : X.stack = X.env :: X.outer
  frm : X.env.frame = some X.env.locals
  mc : ∀ x A, m.C x = some A → x ∈ G.exs
  ec : ∀ x ∈ G.exs, ∀ C ∈ G.hcs, EcI X m x C
  ex : ∀ x ∈ G.exs, ExI X m x
section
variable {G : Gs}
theorem sto_of {X : Cx} {m : Mo} (K : Oks X m G) {i : Nat} {x : Str} (h : stoB X.N X.env.scope i x = true) : X.N[i]? = some x ∧ Loc X.env.scope x ∧ (X.fn x = true ∨ X.env.scope.names.lookup x = some .local) := by
  unfold stoB at h
  rw [Bool.and_eq_true, Bool.and_eq_true] at h
  refine ⟨nm_of h.1.1, loc_of h.1.2, ?_⟩
  rcases st_of h.2 with z | z
  · exact .inl (K.fnc _ z)
  · exact .inr z
theorem lc_of {N : List Str} {X : Cx} {m : Mo} {e : Expr} {t : Bool} {tg : Tg} {it : IT} {c : DO} {el : DE} (K : Okx X m G) (hN : X.N = N) (h : chkE G N X.env.scope t e (.lc tg it c el) = true) : LcOk X m e tg it c el := by
  subst hN
  simp only [chkE] at h
  split at h
  · simp only [Bool.and_eq_true] at h
    obtain ⟨⟨⟨⟨⟨⟨h1, h2⟩, h3⟩, h4⟩, h5⟩, h6⟩, h7⟩ := h
    rename_i elt tge iter ifs scope pos
    refine ⟨elt, tge, iter, ifs, scope, pos, ownOf X.N tg, rfl, ?_, sndI it X m _ _ K rfl h3, blkOk_by h2, own_slots _ _, fun s H C cl fp => ?_, fun s H C cl fp => ?_, fun s H C cl fp => ?_, set_of h7⟩
    · intro z
      rw [z] at h1
      simpa using h1
    · exact g_of (X := X.blk s H scope (compEnvC scope cl C X.env) fp) (so := scope) K.calm K.nod (fun x hx => by show (scope.names.lookup x == some .cell) = true; rw [hx]; rfl) h4
    · exact sndC c (X.blk s H scope (compEnvC scope cl C X.env) fp) m.nox _ K.blk rfl h5
    · exact sndE el (X.blk s H scope (compEnvC scope cl C X.env) fp) m.nox false _ K.blk rfl h6
  · cases h
theorem Okx.tr {X : Cx} {m : Mo} (K : Okx X m G) {pn : List (Addr × Obj)} {xe : Value → Shared → Prop} {W : WX} (t : Takes (X.tr pn xe) W) : Okx (X.tr pn xe) { m with W := W } G where
  calm := K.calm
  room := K.room
  nod := K.nod
  tk := t
  bl := K.bl
  fn := fun x hx => ⟨(K.fn x hx).ex, (K.fn x hx).db⟩
  gc := fun x hx => ⟨(K.gc x hx).ex, (K.gc x hx).db⟩
  gt := fun x hx => ⟨(K.gt x hx).ex, (K.gt x hx).db⟩
theorem sndT : ∀ (b : TrB) (X : Cx) (m : Mo) (sts : List Stmt), Okx X m G → chkT G X.N X.env.scope b sts = true → PSs X sts (TTb X m b)
  | .ret c, X, m, sts, K, h => by
    simp only [chkT] at h
    split at h
    · exact b_ret (sndE c X m false _ K rfl h)
    · cases h
  | .expr c, X, m, sts, K, h => by
    simp only [chkT] at h
    split at h
    · rw [Bool.and_eq_true] at h
      exact b_expr (sndE c X m false _ K rfl h.2) (swN_of h.1)
    · cases h
  | .ite c a b, X, m, sts, K, h => by
    simp only [chkT] at h
    split at h
    · simp only [Bool.and_eq_true] at h
      exact b_ite (sndE c X m true _ K rfl h.1.1) (sndT a X m _ K h.1.2) (sndT b X m _ K h.2)
    · cases h
section
variable {X : Cx} {m : Mo} {i : Nat} {a A : Addr} {oe : Obj} {pn : List (Addr × Obj)} {c : Str}
theorem swH_of {env : Env} {e : Expr} {x : Str} {p : Pos} {l : Nat} (h : noComp e = true) : swapsWith e (some (.Name x p)) l env = pure false := by
  cases e <;> first | rfl | cases h
theorem sndIs (K : Oks X m G) (hc : m.C c = some A) (hz : Zc (.ref A) none oe) (hf : ∃ vs, oe.data = .fields vs) (hex : ExcC X.K A) (hve : PySem.W.kitOne X.K (.ref A) (.type "ValueError") = some true) :
    ∀ (Cs : List Str) (es : List Expr), chkIs G X.N X.env.scope i es Cs = true → PA (X.suite a ((a, oe) :: pn)) es (tIs i a (Cs.map (isSub c)))
  | [], es, h => by
    unfold chkIs at h
    split at h
    · exact is_nil
    · rename_i h0
      cases h0
    · cases h
  | C :: Cs, es, h => by
    unfold chkIs at h
    split at h
    · rename_i h0
      cases h0
    · rename_i h0
      cases h0
      simp only [Bool.and_eq_true, decide_eq_true_eq, Bool.or_eq_true] at h
      obtain ⟨⟨⟨⟨⟨h1, h2⟩, h3⟩, h4⟩, h5⟩, h6⟩ := h
      subst h1 h4
      obtain ⟨g1, g2⟩ := blt_of K.toOkx h2
      obtain ⟨v1, v2, v3, v4⟩ := var_of h3
      have rest := sndIs K hc hz hf hex hve Cs _ h6
      rcases h5 with ⟨k1, k2⟩ | ⟨k1, k2⟩
      · obtain ⟨⟨A', B, e1, e2, _, e4, _⟩, db⟩ := K.ec c (K.mc c A hc) _ k1
        rw [hc] at e1
        cases e1
        exact is_cons (cv := .ref B) (cu := .ref B) hex hz hf g1 g2 v1 v2 v3 v4 (pe_glob (X := X.suite a ((a, oe) :: pn)) (gl_of k2) e2 rfl db) (fun u r => r) e4 rest
      · subst k1
        obtain ⟨b1, b2⟩ := blt_of K.toOkx k2
        have e4 : isSub c "ValueError" = true := by simp [isSub]
        rw [List.map_cons, e4]
        exact is_cons (cv := .ty "ValueError") (cu := .type "ValueError") hex hz hf g1 g2 v1 v2 v3 v4 (pe_bltn (X := X.suite a ((a, oe) :: pn)) b1 b2 (by decide +kernel) rfl) (fun u r => r) hve rest
    · cases h
theorem sndHE (K : Oks X m G) (hc : m.C c = some A) (hz : Zc (.ref A) none oe) (hf : ∃ vs, oe.data = .fields vs) (hex : ExcC X.K A) (hve : PySem.W.kitOne X.K (.ref A) (.type "ValueError") = some true) :
    ∀ (he : HE) (e : Expr), chkHE G X.N X.env.scope i he e = true → PE (X.suite a ((a, oe) :: pn)) e (THE X m i a c he)
  | .var j, e, h => by
    simp only [chkHE] at h
    split at h
    · obtain ⟨v1, v2, v3, v4⟩ := var_of h
      exact h_var (Y := X.suite a ((a, oe) :: pn)) v1 v2 v3 v4
    · cases h
  | .isl Cs, e, h => by
    simp only [chkHE] at h
    split at h
    · exact h_isl (sndIs K hc hz hf hex hve Cs _ h)
    · cases h
  | .add x y, e, h => by
    simp only [chkHE] at h
    split at h
    · rw [Bool.and_eq_true] at h
      exact h_add (sndHE K hc hz hf hex hve x _ h.1) (sndHE K hc hz hf hex hve y _ h.2) rfl
    · cases h
theorem sndHs (K : Oks X m G) (hc : m.C c = some A) (hz : Zc (.ref A) none oe) (hf : ∃ vs, oe.data = .fields vs) (hex : ExcC X.K A) (hve : PySem.W.kitOne X.K (.ref A) (.type "ValueError") = some true) :
    ∀ (hs : List HS) (sts : List Stmt), chkHs G X.N X.env.scope i hs sts = true → PSs (X.suite a ((a, oe) :: pn)) sts (THs X m i a c hs)
  | [], sts, h => by
    simp only [chkHs] at h
    cases sts with
    | nil => exact hs_nil
    | cons _ _ => cases h
  | .set j he :: r, sts, h => by
    simp only [chkHs] at h
    split at h
    · simp only [Bool.and_eq_true, decide_eq_true_eq] at h
      obtain ⟨⟨⟨⟨h1, h2⟩, h3⟩, h4⟩, h5⟩ := h
      obtain ⟨n1, n2, n3⟩ := sto_of K h1
      exact hs_set K.nod n1 n2 n3 h2 (swH_of h3) (sndHE K hc hz hf hex hve he _ h4) (sndHs K hc hz hf hex hve r _ h5)
    · cases h
  | .ret he :: r, sts, h => by
    simp only [chkHs] at h
    split at h
    · exact hs_ret (sndHE K hc hz hf hex hve he _ h)
    · cases h
end
theorem s_any {X : Cx} {m : Mo} {st : Stmt} : PS X st (SS X m .any) := ⟨fun pins s σ H D I ⟨F, δ, E, h⟩ => h.elim⟩
mutual
theorem sndS : ∀ (c : DS) (X : Cx) (m : Mo) (st : Stmt), Oks X m G → chkS G X.N X.env.scope c st = true → PS X st (SS X m c)
  | .any, X, m, st, K, h => s_any
  | .tryE b es C i hh, X, m, st, K, h => by
    simp only [chkS] at h
    split at h
    · simp only [Bool.and_eq_true, decide_eq_true_eq] at h
      obtain ⟨⟨⟨⟨⟨⟨⟨⟨h0, h1⟩, h2⟩, h3⟩, h4⟩, h5⟩, h6⟩, h7⟩, h8⟩ := h
      subst h1
      have hes : ∀ x ∈ es, ∃ A, m.C x = some A := fun x hx => by
        have z := of_decide_eq_true (List.all_eq_true.mp h4 x hx)
        obtain ⟨⟨A, e, _⟩, _⟩ := K.ex x z
        exact ⟨A, e⟩
      cases ee : G.exs with
      | nil =>
        rw [ee] at h0
        cases h0
      | cons x0 r0 =>
        have hx0 : x0 ∈ G.exs := by rw [ee]; exact List.mem_cons_self
        obtain ⟨⟨A0, B, _, eB, _⟩, db⟩ := K.ec x0 hx0 _ h2
        refine s_tryE (cc := .ref B) K.stk K.frm K.nod (nm_of h5) h6 ⟨gl_of h3, db, .inl eB⟩ K.tk hes (fun x A e => ?_) (fun W pn xe t => sndT b (X.tr pn xe) _ _ (K.toOkx.tr t) h7) fun a A oe pn c e hz hf => ?_
        · obtain ⟨⟨A', B', e1, e2, _, _, _, e5⟩, _⟩ := K.ec x (K.mc x A e) _ h2
          rw [e] at e1
          cases e1
          rw [eB] at e2
          cases e2
          exact e5
        · obtain ⟨⟨A', B', e1, _, e3, _, e5, _⟩, _⟩ := K.ec c (K.mc c A e) _ h2
          rw [e] at e1
          cases e1
          exact sndHs K e hz hf e3 e5 hh _ h8
    · cases h
  | .catO i c, X, m, st, K, h => by
    simp only [chkS] at h
    split at h
    · simp only [Bool.and_eq_true, decide_eq_true_eq] at h
      obtain ⟨⟨⟨h1, h2⟩, h3⟩, h4⟩ := h
      subst h1
      obtain ⟨n1, n2, n3⟩ := sto_of K h2
      obtain ⟨v1, v2, v3, v4⟩ := var_of h3
      exact s_catO K.nod n1 n2 v2 v3 v4 (sndE c X m false _ K.toOkx rfl h4) n3
    · cases h
  | .set i c, X, m, st, K, h => by
    simp only [chkS] at h
    split at h
    · simp only [Bool.and_eq_true] at h
      obtain ⟨⟨h1, h2⟩, h3⟩ := h
      obtain ⟨n1, n2, n3⟩ := sto_of K h1
      split at h3
      · cases h3
      · rename_i b eb
        cases b with
        | false => exact s_set K.nod n1 n2 (sndE c X m false _ K.toOkx rfl h2) (sw_of K.kind eb) n3
        | true =>
          cases c with
          | lc t it co el =>
            obtain ⟨elt, tg, iter, ifs, scope, lp, own, rfl, l1, l2, l3, l4, l5, l6, l7, l8⟩ := (lc_of K.toOkx rfl h2).ex
            exact s_setLc l1 K.calm K.nod n1 (sw_local eb) (sw_of K.kind eb) l2 l3 l4 l5 l6 l7 l8
          | _ => cases h3
    · cases h
  | .setT is c, X, m, st, K, h => by
    simp only [chkS] at h
    split at h
    · simp only [Bool.and_eq_true] at h
      obtain ⟨⟨h1, h2⟩, h3⟩ := h
      exact s_setT (g_of K.calm K.nod K.fnc h1) (sndE c X m false _ K.toOkx rfl h2) swT_of (stT_of h3) rfl
    · cases h
  | .newL i cs, X, m, st, K, h => by
    simp only [chkS] at h
    split at h
    · simp only [Bool.and_eq_true] at h
      obtain ⟨h1, h2⟩ := h
      obtain ⟨n1, n2, n3⟩ := sto_of K h1
      exact s_newL K.nod n1 n2 (sndA cs X m _ K.toOkx rfl h2) n3
    · cases h
  | .newD i, X, m, st, K, h => by
    simp only [chkS] at h
    split at h
    · obtain ⟨n1, n2, n3⟩ := sto_of K h
      exact s_newD K.nod n1 n2 n3
    · cases h
  | .app i c, X, m, st, K, h => by
    simp only [chkS] at h
    split at h
    · simp only [Bool.and_eq_true, decide_eq_true_eq] at h
      obtain ⟨⟨⟨⟨h1, h2⟩, h3⟩, h4⟩, h5⟩ := h
      subst h1
      obtain ⟨v1, v2, v3, v4⟩ := var_of h3
      exact s_app v1 v2 v3 v4 (sndE c X m false _ K.toOkx rfl h4) (star_of h5) h2
    · cases h
  | .ext i c, X, m, st, K, h => by
    simp only [chkS] at h
    split at h
    · simp only [Bool.and_eq_true, decide_eq_true_eq] at h
      obtain ⟨⟨⟨⟨h1, h2⟩, h3⟩, h4⟩, h5⟩ := h
      subst h1
      obtain ⟨v1, v2, v3, v4⟩ := var_of h3
      exact s_ext v1 v2 v3 v4 (sndE c X m false _ K.toOkx rfl h4) (star_of h5) h2
    · cases h
  | .dput i ck cv, X, m, st, K, h => by
    simp only [chkS] at h
    split at h
    · simp only [Bool.and_eq_true] at h
      obtain ⟨⟨h1, h2⟩, h3⟩ := h
      obtain ⟨v1, v2, v3, v4⟩ := var_of h1
      exact s_dput K.room v1 v2 v3 v4 (sndE ck X m false _ K.toOkx rfl h2) (sndE cv X m false _ K.toOkx rfl h3) swS_of
    · cases h
  | .aug i op c, X, m, st, K, h => by
    simp only [chkS] at h
    split at h
    · simp only [Bool.and_eq_true, decide_eq_true_eq] at h
      obtain ⟨⟨⟨h1, h2⟩, h3⟩, h4⟩ := h
      subst h1
      obtain ⟨n1, n2, n3⟩ := sto_of K h3
      exact s_aug h2 K.nod n1 n2 (sndE c X m false _ K.toOkx rfl h4) n3
    · cases h
  | .expr c, X, m, st, K, h => by
    simp only [chkS] at h
    split at h
    · simp only [Bool.and_eq_true] at h
      exact s_expr (sndE c X m false _ K.toOkx rfl h.2) (swN_of h.1)
    · cases h
  | .ret c, X, m, st, K, h => by
    simp only [chkS] at h
    split at h
    · exact s_ret (sndE c X m false _ K.toOkx rfl h)
    · cases h
  | .retN, X, m, st, K, h => by
    simp only [chkS] at h
    split at h
    · exact s_retN
    · cases h
  | .ite c a b, X, m, st, K, h => by
    simp only [chkS] at h
    split at h
    · simp only [Bool.and_eq_true] at h
      obtain ⟨⟨h1, h2⟩, h3⟩ := h
      exact s_if (sndE c X m true _ K.toOkx rfl h1) (sndL a X m _ K h2) (sndL b X m _ K h3)
    · cases h
  | .for t it b, X, m, st, K, h => by
    simp only [chkS] at h
    split at h
    · simp only [Bool.and_eq_true] at h
      obtain ⟨⟨⟨⟨h1, h2⟩, h3⟩, h4⟩, h5⟩ := h
      refine s_for ?_ K.ps K.calm (sndI it X m _ _ K.toOkx rfl h2) (g_of K.calm K.nod K.fnc h3) (sndL b X m _ K h5) (set_of h4)
      intro z
      rw [z] at h1
      simpa using h1
    · cases h
  | .raise c ms, X, m, st, K, h => by
    simp only [chkS] at h
    split at h
    · simp only [Bool.and_eq_true, decide_eq_true_eq] at h
      obtain ⟨⟨⟨h1, h2⟩, h3⟩, h4⟩ := h
      subst h1 h2
      exact s_raise K.calm K.tk (K.ex _ h3) (gl_of h4)
    · cases h
  | .frz _, X, m, st, K, h => by simp only [chkS] at h; cases h
theorem sndL : ∀ (cs : List DS) (X : Cx) (m : Mo) (sts : List Stmt), Oks X m G → chkL G X.N X.env.scope cs sts = true → PSs X sts (SL X m cs)
  | [], X, m, sts, K, h => by
    simp only [chkL] at h
    cases sts with
    | nil => exact ss_nil
    | cons _ _ => cases h
  | c :: cs, X, m, sts, K, h => by
    simp only [chkL] at h
    split at h
    · exact ss_frz (sndL cs X m _ K h)
    · split at h
      · cases h
      · rw [Bool.and_eq_true] at h
        exact ss_cons (sndS c X m _ K h.1) (sndL cs X m _ K h.2)
end
end
end Rh

set_option Elab.async false
set_option linter.all false
set_option maxRecDepth 100000
set_option maxHeartbeats 4000000
/-! Defs. -/
namespace Rh
open PySem PySem.Spec PyProof.Rows L2
/-- a def of the module and its core code -/
structure FnD (K : PySem.W.Frag) (mg : Str → Option Value) (G : Gs) (x : Str) (d : Df) (f : Addr) (fd : FuncData) (ps : List Str) : Prop where
  ex : ∃ (params : Arguments) (body : List Stmt) (scope : Scope) (N : List Str), FunD K x x params body scope [] [] f fd ∧ C8.scC N ps scope = true ∧ d.ns = N.length ∧ chkL G N scope d.body body = true
  mg : mg x = some (.ref f)
  bd : Binds K fd ps []
  np : d.np = ps.length
  db : (x == ("__debug__" : Str)) = false
/-- what is known of the module -/
structure Md (P : Program) (w : World) (K : PySem.W.Frag) (mg : Str → Option Value) (G : Gs) (g : Str → Option PyData) (C : Str → Option Addr) (tab : Str → Option Df) : Prop where
  bl : ∀ x ∈ G.bls, mg x = none
  gc : ∀ x ∈ G.gcs, (∃ d v u, g x = some d ∧ mg x = some u ∧ RelV v u ∧ ∀ F, Rp P w K F v d) ∧ (x == ("__debug__" : Str)) = false
  gt : ∀ x ∈ G.gts, (∃ ys a, g x = some (.tuple ys) ∧ mg x = some (.ref a) ∧ ∀ H, Dp K H (.ref a) (.tuple ys)) ∧ (x == ("__debug__" : Str)) = false
  ex : ∀ x ∈ G.exs, (∃ A, C x = some A ∧ mg x = some (.ref A) ∧ PySem.W.keepIn K (.ref A) = true ∧ PySem.W.subIn K (.ref A) (.type "BaseException") = some true ∧ PySem.W.typeIn K (.ref A) = some (.type "type") ∧ ∃ (B newId initId : String) (bmB : List Value), ∃ _ : ExcBaseFacts B newId initId bmB, PySem.W.excIn K A bmB newId = true) ∧ (x == ("__debug__" : Str)) = false
  fn : ∀ x ∈ G.fns, ∃ d f fd ps, tab x = some d ∧ FnD K mg G x d f fd ps
  mc : ∀ x A, C x = some A → x ∈ G.exs
  ec : ∀ x ∈ G.exs, ∀ Y ∈ G.hcs, (∃ A B, C x = some A ∧ mg Y = some (.ref B) ∧ ExcC K A ∧ PySem.W.kitOne K (.ref A) (.ref B) = some (isSub x Y) ∧ PySem.W.kitOne K (.ref A) (.type "ValueError") = some true ∧ PySem.W.exmOne K (.ref A) (.ref B) = some (isSub x Y)) ∧ (Y == ("__debug__" : Str)) = false
section
variable {P : Program} {w : World} {K : PySem.W.Frag} {mg : Str → Option Value} {base : Heap} {G : Gs} {g : Str → Option PyData} {C : Str → Option Addr} {tab : Str → Option Df}
/-- the names' values at the entry -/
def entry (d : Df) (ds : List PyData) : Ev := ds.map (fun z => some (.sh z)) ++ List.replicate (d.ns - d.np) none
theorem run_succ {k : Nat} {x : Str} {d : Df} (h : tab x = some d) (ds : List PyData) : run g tab (k + 1) x ds = if ds.length = d.np then
        (match execs g (run g tab k) d.body (entry d ds) with
        | .rt v => .ok v
        | .nx _ => .ok .none
        | .err c => .err c
        | _ => .stuck)
      else .stuck := by
  simp only [run, h]
  rfl
theorem En.start {m : Mo} {D : Wd} {F H : Hp} {N ps : List Str} {vs : List V} {ds : List PyData} {d : Df} (hm : m.H0 = H) (sF : Same F H) (r : RPA D F vs ds) (np : d.np = ps.length) (ns : d.ns = N.length) (hl : ds.length = d.np) : En D m F H (L2.start N vs) (entry d ds) := by
  have lv : vs.length = ds.length := r.length
  have key : ∀ (i : Nat) (z : Sl), (entry d ds)[i]? = some (some z) → ∃ e, ds[i]? = some e ∧ z = .sh e := by
    intro i z e
    unfold entry at e
    by_cases hi : i < ds.length
    · rw [List.getElem?_append_left (by simpa using hi), List.getElem?_map] at e
      cases q : ds[i]? with
      | none =>
        rw [q] at e
        cases e
      | some a =>
        rw [q] at e
        cases e
        exact ⟨a, rfl, rfl⟩
    · rw [List.getElem?_append_right (by simpa using hi), List.getElem?_replicate] at e
      split at e <;> cases e
  refine ⟨sF, by rw [hm]; exact Same.refl _, ?_, fun i e h => ?_, fun i e h => ?_, fun i j e1 e2 p _ h => ?_⟩
  · unfold entry L2.start
    rw [List.length_append, List.length_append, List.length_map, List.length_map, List.length_replicate, List.length_replicate, lv, ns, hl]
  · obtain ⟨e2, h2, h3⟩ := key i _ h
    cases h3
    obtain ⟨v, h4, h5⟩ := r.get h2
    refine ⟨v, ?_, h5⟩
    unfold L2.start
    have hi : i < vs.length := (List.getElem?_eq_some_iff.mp h4).1
    rw [List.getElem?_append_left (by simpa using hi), List.getElem?_map, h4]
    rfl
  · obtain ⟨e2, h2, h3⟩ := key i _ h
    cases h3
  · obtain ⟨e2, h2, h3⟩ := key i _ h
    cases h3
theorem fn_lev (M : Md P w K mg G g C tab) : ∀ (k : Nat) (x : Str) (d : Df) (f : Addr) (fd : FuncData) (ps : List Str), tab x = some d → FnD K mg G x d f fd ps → FnOk P w K mg base (L2.CX P w) k f fd ps (spF ⟨P, w, K⟩ C (run g tab k x))
  | 0, x, d, f, fd, ps, ht, D => ⟨fun vs H Q E ⟨F, ds, sF, r, h⟩ => h.elim, fun A outer s H args us vs Q E hr he hb hv ⟨F, ds, sF, r, h⟩ => h.elim⟩
  | k + 1, x, d, f, fd, ps, ht, D => by
    obtain ⟨params, body, scope, N, FD, sc, ns, ck⟩ := D.ex
    have S := C8.fnScope_by sc
    have split : ∀ (ds : List PyData) (R : Res PyData → Prop), R (run g tab (k + 1) x ds) → R .stuck ∨ (ds.length = d.np ∧ R (match execs g (run g tab k) d.body (entry d ds) with
        | .rt v => .ok v
        | .nx _ => .ok .none
        | .err c => .err c
        | _ => .stuck)) := by
      intro ds R h
      rw [run_succ ht] at h
      by_cases hl : ds.length = d.np
      · rw [if_pos hl] at h
        exact .inr ⟨hl, h⟩
      · rw [if_neg hl] at h
        exact .inl h
    refine FD.ok (CX := L2.CX P w) S (fun vs H Q E ⟨F, ds, sF, r, h⟩ => ?_) fun cdv A outer s H vs Q E hr ⟨F, ds, sF, r, h⟩ => ?_
    · rcases split ds (fun q => match q with
        | .ok d => ∀ v F' H', Ext F H F' H' → Rp P w K F' v d → Q v H'
        | .err x => ∃ A, C x = some A ∧ ∀ H', Same H H' → E (.ref A) none H'
        | .stuck => False) h with z | ⟨hl, _⟩
      · exact z.elim
      · rw [r.length, hl, D.np]
    · rcases split ds (fun q => match q with
        | .ok d => ∀ v F' H', Ext F H F' H' → Rp P w K F' v d → Q v H'
        | .err x => ∃ A, C x = some A ∧ ∀ H', Same H H' → E (.ref A) none H'
        | .stuck => False) h with z | ⟨hl, h2⟩
      · exact z.elim
      · have Ko : Oks (L2.cxOf (L2.CX P w) P w K mg base N x scope f cdv A outer s H E) ⟨g, run g tab k, C, H, fun cls d _ H => E cls d H⟩ G := by
          refine ⟨⟨rfl, ?_, S.nd, L2.takes_of rfl rfl rfl rfl, M.bl, fun y hy => ?_, fun y hy => ⟨(M.gc y hy).1, (M.gc y hy).2⟩, fun y hy => ⟨(M.gt y hy).1, (M.gt y hy).2⟩⟩, L2.passes_of rfl, S.kind, fun _ _ => rfl, rfl, rfl, M.mc, fun y hy Y hY => ⟨(M.ec y hy Y hY).1, (M.ec y hy Y hY).2⟩, fun y hy => ?_⟩
          · have z := hr.un
            show (A.deeper _).units + 100 < cLine
            omega
          · obtain ⟨d2, f2, fd2, ps2, t2, D2⟩ := M.fn y hy
            obtain ⟨_, _, _, _, FD2, _⟩ := D2.ex
            exact ⟨⟨k, f2, fd2, ps2, fn_lev M k y d2 f2 fd2 ps2 t2 D2, hr, D2.mg, FD2.kp, D2.bd⟩, D2.db⟩
          · obtain ⟨⟨A1, e1, e2, e3, e4, e5, e6⟩, db⟩ := M.ex y hy
            exact ⟨⟨A1, e1, e2, e3, L2.raises_own e4 e5, e6⟩, db⟩
        refine ⟨_, sndL d.body _ _ body Ko ck, F, entry d ds, En.start (ps := ps) rfl sF r D.np ns hl, ?_⟩
        cases eo : execs g (run g tab k) d.body (entry d ds) with
        | rt v =>
          rw [eo] at h2
          exact fun v2 F' H' z s1 s2 r2 => h2 v2 F' H' ⟨z.ff, s1, s2, z.new⟩ r2
        | nx δ =>
          rw [eo] at h2
          exact fun σ' F' H' En' z => h2 .non F' H' ⟨z.ff, En'.sub, En'.old, z.new⟩ .non
        | err c =>
          rw [eo] at h2
          obtain ⟨A1, e1, e2⟩ := h2
          exact ⟨A1, e1, fun σ' H' s1 => e2 H' s1⟩
        | bk δ =>
          rw [eo] at h2
          exact h2.elim
        | ct δ =>
          rw [eo] at h2
          exact h2.elim
        | stuck =>
          rw [eo] at h2
          exact h2.elim
end
end Rh

set_option Elab.async false
set_option linter.all false
set_option maxRecDepth 100000
set_option maxHeartbeats 4000000
/-! The head: what the module's names hold. -/
namespace Rh
open PySem PySem.Spec PyProof.Rows L2
/-- a def: its place in the text, its names, parameters, core code -/
structure Dd where
  name : Str
  ix : Nat
  N : List Str
  ps : List Str
  df : Df
/-- a law's text: names, constants, defs -/
structure Lw where
  G : Gs
  nums : List (Str × Int)
  tups : List (Str × List Str)
  defs : List Dd
def topAt (p : Program) (i : Nat) : Stmt := p.main.body.getD i (.Pass ⟨0, 0, 0, 0⟩)
def Lw.fa (L : Lw) : List He.Fa := L.G.bls.map .free ++ (L.G.fns.map .glo ++ (L.G.exs.map .glo ++ (L.G.gts.map .glo ++ (L.nums.map (fun q => .int q.1 q.2) ++ (L.G.exs.map .exc ++ L.G.hcs.map .glo)))))
def Dd.he (p : Program) (d : Dd) : He.DefD := ⟨(d.name, none), d.name, d.name, defArgs (topAt p d.ix), defBody (topAt p d.ix), defScope (topAt p d.ix), [], []⟩
def Lw.fn (L : Lw) (p : Program) : List He.DefD := L.defs.map (Dd.he p)
/-- what the class A of errors says, asked by the class B -/
def exB (K : PySem.W.Frag) (x C : Str) : Bool :=
  (PySem.W.findIn K (.ref (He.ga K x)) "__getattribute__" == some (some (.builtin "BaseException.__getattribute__"))) &&
  (PySem.W.findIn K (.ref (He.ga K x)) "__getattr__" == some none) && (PySem.W.subIn K (.ref (He.ga K x)) (.type "BaseException") == some true) && PySem.W.hasDictIn K (He.ga K x) &&
  (PySem.W.findIn K (.ref (He.ga K x)) "__class__" == some (some (.builtin "object.__class__"))) && (PySem.W.specialIn K (.builtin "object.__class__") "__get__" == some (some (.builtin "getset_descriptor.__get__"))) &&
  (PySem.W.takesIn K (.builtin "object.__class__") == some true) && (PySem.W.mroIn K (He.ga K x) (.type "object") == some true) &&
  (PySem.W.kitOne K (.ref (He.ga K x)) (.ref (He.ga K C)) == some (isSub x C)) && (PySem.W.kitOne K (.ref (He.ga K x)) (.type "ValueError") == some true) && (PySem.W.exmOne K (.ref (He.ga K x)) (.ref (He.ga K C)) == some (isSub x C))
theorem exB_ok {K : PySem.W.Frag} {x C : Str} (h : exB K x C = true) : ExcC K (He.ga K x) ∧ PySem.W.kitOne K (.ref (He.ga K x)) (.ref (He.ga K C)) = some (isSub x C) ∧ PySem.W.kitOne K (.ref (He.ga K x)) (.type "ValueError") = some true ∧ PySem.W.exmOne K (.ref (He.ga K x)) (.ref (He.ga K C)) = some (isSub x C) := by
  unfold exB at h
  simp only [Bool.and_eq_true] at h
  obtain ⟨⟨⟨⟨⟨⟨⟨⟨⟨⟨h1, h2⟩, h3⟩, h4⟩, h5⟩, h6⟩, h7⟩, h8⟩, h9⟩, h10⟩, h11⟩ := h
  exact ⟨⟨eq_of_beq h1, eq_of_beq h2, eq_of_beq h3, h4, eq_of_beq h5, eq_of_beq h6, eq_of_beq h7, eq_of_beq h8⟩, eq_of_beq h9, eq_of_beq h10, eq_of_beq h11⟩
def Lw.ex (L : Lw) (K : PySem.W.Frag) : Bool := (L.tups.all fun t => He.tupB K t.1 (t.2.map .str)) && (L.G.exs.all fun x => L.G.hcs.all fun C => exB K x C)
abbrev AlR : Type := He.AlD × Bool
def Lw.obs (L : Lw) (p : Program) (n : Nat) (g : Addr → Option Obj) : AlR := (He.obsD L.fa (L.fn p) (He.frG g (He.asD g n)), L.ex (He.frG g (He.asD g n)))
def Lw.hook (L : Lw) (p : Program) (n : Nat) : PySem.W.Hook where
  α := AlR
  obs := fun s => L.obs p n s.heap.get?
  val := fun _ => (He.valD (L.fn p), true)
  says := fun _ h => ∃ K : PySem.W.Frag, K.In h ∧ He.SaysD L.fa (L.fn p) K ∧ L.ex K = true
  of := fun _ _ e => ⟨_, He.frG_in, congrArg (fun z : AlR => z.1) e, congrArg (fun z : AlR => z.2) e⟩
  keeps := fun _ _ _ ⟨K, hK, c⟩ k => ⟨K, PySem.W.Frag.In.keeps hK k, c⟩
noncomputable def Lw.ob (L : Lw) (p : Program) (n : Nat) (s : PySem.W.SharedT) : AlR := L.obs p n (HandSHeadRun.getT s)
theorem Lw.ob_eq (L : Lw) (p : Program) (n : Nat) (s : PySem.W.SharedT) : L.ob p n s = (L.hook p n).obs s.abs := by
  have e : HandSHeadRun.getT s = s.abs.heap.get? := funext fun a => HandSHeadRun.getT_eq s a
  show L.obs p n (HandSHeadRun.getT s) = _
  rw [e]
  rfl
def Lw.g (L : Lw) (x : Str) : Option PyData := match L.nums.lookup x with
  | some i => some (.int i)
  | none => (match L.tups.lookup x with
    | some ss => some (.tuple (ss.map .str))
    | none => none)
def Lw.tab (L : Lw) (x : Str) : Option Df := (L.defs.find? fun d => decide (d.name = x)).map (·.df)
/-- the text says so -/
def Dd.good (p : Program) (G : Gs) (d : Dd) : Bool := C8.scC d.N d.ps (defScope (topAt p d.ix)) && decide (d.df.ns = d.N.length) && decide (d.df.np = d.ps.length) && !(d.name == ("__debug__" : Str)) && chkL G d.N (defScope (topAt p d.ix)) d.df.body (defBody (topAt p d.ix))
section
variable {L : Lw} {p : Program} {w : World} {K : PySem.W.Frag} {mg : Str → Option Value} {h : Heap}
theorem mem_fact (c : He.SaysD L.fa (L.fn p) K) {f : He.Fa} (hf : f ∈ L.fa) : f.ok K = true := by
  obtain ⟨i, hi, e⟩ := List.getElem_of_mem hf
  exact c.fact i (by rw [List.getElem?_eq_getElem hi, e])
theorem lookup_some {β : Type} : ∀ {l : List (Str × β)} {x : Str}, x ∈ l.map (·.1) → ∃ b, l.lookup x = some b ∧ (x, b) ∈ l
  | [], x, h => by cases h
  | q :: r, x, h => by
    by_cases e : x = q.1
    · subst e
      refine ⟨q.2, ?_, List.mem_cons_self⟩
      obtain ⟨a, b⟩ := q
      simp [List.lookup]
    · rcases List.mem_cons.mp h with z | z
      · exact absurd z e
      · obtain ⟨b, e1, e2⟩ := lookup_some (l := r) z
        refine ⟨b, ?_, List.mem_cons_of_mem _ e2⟩
        obtain ⟨a, b2⟩ := q
        rw [List.lookup_cons, beq_eq_false_iff_ne.mpr e]
        exact e1
theorem strs_dp : ∀ ss : List Str, ∀ H, DpAll K H (ss.map fun s => V.str s) (ss.map .str)
  | [], H => .nil
  | s :: r, H => .cons (.str s) (strs_dp r H)
/-- names are as they should be -/
def Lw.okay (L : Lw) : Bool := decide (L.G.gcs = L.nums.map (·.1)) && decide (L.G.gts = L.tups.map (·.1)) && decide (L.G.fns = L.defs.map (·.name)) && decide (L.defs.map (·.name)).Nodup && (L.G.gts.all fun x => (L.nums.lookup x).isNone) &&
  ((L.G.gcs ++ L.G.gts ++ L.G.exs ++ L.G.hcs).all fun x => !(x == ("__debug__" : Str)))
/-- arguments are bound in order -/
def BindsAll (L : Lw) (p : Program) : Prop := ∀ d ∈ L.defs, ∀ (kV doc pm : Value) (an : Option Addr) (cdv ct : Value) (us : List Value), us.length = d.ps.length → bindArgs (PySem.W.fnOf d.name d.name (defArgs (topAt p d.ix)) (defBody (topAt p d.ix)) (defScope (topAt p d.ix)) .none kV doc pm an cdv ct) ⟨us, []⟩ = pure (d.ps.zip us)
theorem find_def : ∀ {l : List Dd} {d : Dd}, (l.map (·.name)).Nodup → d ∈ l → l.find? (fun e => decide (e.name = d.name)) = some d
  | [], _, _, h => by cases h
  | q :: r, d, hn, h => by
    rw [List.map_cons, List.nodup_cons] at hn
    rcases List.mem_cons.mp h with e | e
    · subst e
      simp
    · have ne : ¬ q.name = d.name := fun z => hn.1 (by rw [z]; exact List.mem_map.mpr ⟨d, e, rfl⟩)
      rw [List.find?_cons]
      simp only [ne, decide_false]
      exact find_def hn.2 e
theorem md_of {base : Heap} (X : K.In h) (hG : h.Ns mainGlobals mg) (c : He.SaysD L.fa (L.fn p) K) (ce : L.ex K = true) (ok : L.okay = true) (hb : BindsAll L p) (good : (L.defs.all (Dd.good p L.G)) = true) :
    Md p w K mg L.G L.g (fun x => if x ∈ L.G.exs then some (He.ga K x) else none) L.tab := by
  unfold Lw.okay at ok
  simp only [Bool.and_eq_true, decide_eq_true_eq] at ok
  obtain ⟨⟨⟨⟨⟨o1, o2⟩, o3⟩, o4⟩, o5⟩, o6⟩ := ok
  have db : ∀ x, x ∈ L.G.gcs ++ L.G.gts ++ L.G.exs ++ L.G.hcs → (x == ("__debug__" : Str)) = false := fun x hx => by
    have z := List.all_eq_true.mp o6 x hx
    rwa [Bool.not_eq_true'] at z
  have fa : ∀ f, f ∈ L.fa ↔ f ∈ L.G.bls.map He.Fa.free ∨ f ∈ L.G.fns.map He.Fa.glo ∨ f ∈ L.G.exs.map He.Fa.glo ∨ f ∈ L.G.gts.map He.Fa.glo ∨ f ∈ L.nums.map (fun q => He.Fa.int q.1 q.2) ∨ f ∈ L.G.exs.map He.Fa.exc ∨ f ∈ L.G.hcs.map He.Fa.glo := by
    intro f
    unfold Lw.fa
    simp only [List.mem_append]
  have ce1 := (Bool.and_eq_true _ _ ▸ ce : _ ∧ _)
  refine ⟨fun x hx => ?_, fun x hx => ?_, fun x hx => ?_, fun x hx => ?_, fun x hx => ?_, fun x A h => ?_, fun x hx Y hY => ?_⟩
  · exact He.free_ok X hG (mem_fact c ((fa _).mpr (.inl (List.mem_map.mpr ⟨x, hx, rfl⟩))))
  · refine ⟨?_, db x (by simp [hx])⟩
    rw [o1] at hx
    obtain ⟨i, e1, e2⟩ := lookup_some hx
    obtain ⟨t, e3⟩ := He.int_ok X hG (mem_fact c ((fa (.int x i)).mpr (.inr (.inr (.inr (.inr (.inl (List.mem_map.mpr ⟨(x, i), e2, rfl⟩))))))))
    refine ⟨.int i, .int i, .int i t, ?_, e3, ⟨t, rfl⟩, fun F => .int i⟩
    unfold Lw.g
    rw [e1]
  · refine ⟨?_, db x (by simp [hx])⟩
    have n1 : L.nums.lookup x = none := by
      have z := List.all_eq_true.mp o5 x hx
      simpa using z
    have g1 := He.glo_ok X hG (mem_fact c ((fa (.glo x)).mpr (.inr (.inr (.inr (.inl (List.mem_map.mpr ⟨x, hx, rfl⟩)))))))
    rw [o2] at hx
    obtain ⟨ss, e1, e2⟩ := lookup_some hx
    have z := He.tupB_ok (List.all_eq_true.mp ce1.1 (x, ss) e2)
    refine ⟨ss.map .str, He.ga K x, ?_, g1, fun H => ?_⟩
    · unfold Lw.g
      rw [n1, e1]
    · have z2 := z H
      rw [List.map_map] at z2
      exact .tup z2 (strs_dp ss H)
  · refine ⟨?_, db x (by simp [hx])⟩
    have g1 := He.glo_ok X hG (mem_fact c ((fa (.glo x)).mpr (.inr (.inr (.inl (List.mem_map.mpr ⟨x, hx, rfl⟩))))))
    obtain ⟨x1, x2, x3, x4⟩ := He.exc_ok (mem_fact c ((fa (.exc x)).mpr (.inr (.inr (.inr (.inr (.inr (.inl (List.mem_map.mpr ⟨x, hx, rfl⟩)))))))))
    exact ⟨He.ga K x, if_pos hx, g1, x2, x3, x4, _, _, _, _, PySem.F.excBase_ValueError, x1⟩
  · have g1 := He.glo_ok X hG (mem_fact c ((fa (.glo x)).mpr (.inr (.inl (List.mem_map.mpr ⟨x, hx, rfl⟩)))))
    rw [o3] at hx
    obtain ⟨d, hd, rfl⟩ := List.mem_map.mp hx
    obtain ⟨i, hi, e⟩ := List.getElem_of_mem hd
    obtain ⟨fd, FD⟩ := c.def_ i (d := d.he p) (by unfold Lw.fn; rw [List.getElem?_map, List.getElem?_eq_getElem hi, e]; rfl)
    have gd := List.all_eq_true.mp good d hd
    unfold Dd.good at gd
    simp only [Bool.and_eq_true, decide_eq_true_eq, Bool.not_eq_true'] at gd
    obtain ⟨⟨⟨⟨k1, k2⟩, k3⟩, k4⟩, k5⟩ := gd
    refine ⟨d.df, He.ga K d.name, fd, d.ps, ?_, ⟨_, _, _, d.N, FD, k1, k2, k5⟩, g1, FunD.bindsN FD (hb d hd), k3, k4⟩
    unfold Lw.tab
    rw [find_def o4 hd]
    rfl
  · by_cases z : x ∈ L.G.exs
    · exact z
    · rw [if_neg z] at h
      cases h
  · have g1 := He.glo_ok X hG (mem_fact c ((fa (.glo Y)).mpr (.inr (.inr (.inr (.inr (.inr (.inr (List.mem_map.mpr ⟨Y, hY, rfl⟩)))))))))
    obtain ⟨k1, k2, k3, k4⟩ := exB_ok (List.all_eq_true.mp (List.all_eq_true.mp ce1.2 x hx) Y hY)
    exact ⟨⟨He.ga K x, He.ga K Y, if_pos hx, g1, k1, k2, k3, k4⟩, db Y (by simp [hY])⟩
end
theorem walk_R {l : PySem.W.OpenLaw} {n k nn : Nat} {q : Program} {loose : List Str} {XP : (Str → Option Value) → Heap → Prop} {d : DefRec} {L : Lw} {D : Dd}
    (hn : l.most = some n) (hn2 : n ≤ sizeLine) (hdf : d.params.defaults = []) (hr : Room k callerA) (hd : d.name = "law") (hD : D ∈ L.defs) (hDn : D.name = "law") (hDp : D.ps = [Str.ofString "script"])
    (ok : L.okay = true) (hb : BindsAll L l.prog) (good : (L.defs.all (Dd.good l.prog L.G)) = true)
    (law : ∀ ns : List Int, ns.length ≤ n → (∀ z ∈ ns, Builtin.Int.intBits z ≤ 1048576) → run L.g L.tab k "law" [scrD ns] = .ok (.bool true)) :
    PySem.W.WalkO q loose XP (L.hook l.prog nn).says l.row.toRowW d [] (fun f vs => PySem.call f vs) := by
  refine Att.attach_callB hn hdf fun w s₀ s₁ mg mb fa o pm cd doc a vs ns G Y ho hd1 hcd hmg hobj hints hlen hbits hg => ?_
  obtain ⟨K, KX, c, ce⟩ := Y
  have M := md_of (w := w) (base := s₁.heap) KX G.T.g c ce ok hb good
  rw [hd] at hmg
  have hf : (D.name : Str) ∈ L.G.fns := by
    have ok2 := ok
    unfold Lw.okay at ok2
    simp only [Bool.and_eq_true, decide_eq_true_eq] at ok2
    rw [ok2.1.1.1.2]
    exact List.mem_map.mpr ⟨D, hD, rfl⟩
  have g1 := He.glo_ok KX G.T.g (mem_fact c (f := .glo D.name) (by unfold Lw.fa; simp only [List.mem_append, List.mem_map]; exact .inr (.inl ⟨_, hf, rfl⟩)))
  rw [hDn] at g1
  have ea := hmg.symm.trans g1
  cases ea
  obtain ⟨i, hi, e⟩ := List.getElem_of_mem hD
  obtain ⟨fd, FD⟩ := c.def_ i (d := D.he l.prog) (by unfold Lw.fn; rw [List.getElem?_map, List.getElem?_eq_getElem hi, e]; rfl)
  have gd := List.all_eq_true.mp good D hD
  unfold Dd.good at gd
  simp only [Bool.and_eq_true, decide_eq_true_eq, Bool.not_eq_true'] at gd
  obtain ⟨⟨⟨⟨k1, k2⟩, k3⟩, k4⟩, k5⟩ := gd
  have ok2 := ok
  unfold Lw.okay at ok2
  simp only [Bool.and_eq_true, decide_eq_true_eq] at ok2
  have ht : L.tab D.name = some D.df := by
    unfold Lw.tab
    rw [find_def ok2.1.1.2 hD]
    rfl
  have g2 : mg D.name = some (.ref (He.ga K D.name)) := by
    rw [hDn]
    exact g1
  have FN : FnD K mg L.G D.name D.df (He.ga K D.name) fd D.ps := ⟨⟨_, _, _, D.N, FD, k1, k2, k5⟩, g2, FunD.bindsN FD (hb D hD), k3, k4⟩
  have bb : ∀ (s : Shared) (u : Value), BindsTo s fd ⟨[u], []⟩ [(("script" : Str), u)] := fun s u => by
    have z := FunD.bindsA (ps := D.ps) FD (hb D hD) s [u] (by rw [hDp]; rfl)
    rw [hDp] at z
    exact z
  have F2 : ∀ base : Heap, K.In base → base.Ns mainGlobals mg → FnOk l.prog w K mg base (L2.CX l.prog w) k (He.ga K D.name) fd [Str.ofString "script"] (spF ⟨l.prog, w, K⟩ (fun x => if x ∈ L.G.exs then some (He.ga K x) else none) (run L.g L.tab k D.name)) := fun base _ _ => by
    have z := fn_lev (base := base) M k D.name D.df _ fd D.ps ht FN
    rw [hDp] at z
    exact z
  rw [hDn] at F2
  refine law_call KX G.T.g G.T.b G.T.builtins G.T.nolimit hg hobj hints (Nat.le_trans hlen hn2) hr F2 bb (fun H hO hS => ?_) fun H e s' hx => ?_
  · refine ⟨H, [scrD ns], Same.refl _, .cons (.scr hS) .nil, ?_⟩
    rw [law ns hlen hbits]
    intro v F' H' x r
    cases r
    rfl
  · obtain ⟨_, _, _, _, _, _, _, _, _, _, _, _, z⟩ := hx
    exact z
theorem all_nil {α : Type} {P : α → Prop} : ∀ x ∈ ([] : List α), P x := fun x h => by cases h
theorem all_cons {α : Type} {P : α → Prop} {a : α} {l : List α} (h1 : P a) (h2 : ∀ x ∈ l, P x) : ∀ x ∈ a :: l, P x := fun x h => by
  rcases List.mem_cons.mp h with e | e
  · rw [e]
    exact h1
  · exact h2 x e
end Rh

set_option linter.all false
set_option maxRecDepth 100000
/-! Core code, printed by gen.py. -/
namespace Rh
namespace Cd
open PySem (Str)
def d_is_within : Df := ⟨3, 3, [
  .ret (.bop .And (.cons (.isi (.var 0) "int") (.cons (.nt (.isi (.var 0) "bool")) (.cons (.chain .LtE .LtE (.var 1) (.var 0) (.var 2)) .nil))))]⟩
def d_is_stand : Df := ⟨2, 3, [
  .ite (.bop .Or (.cons (.nt (.isi (.var 1) "tuple")) (.cons (.nt (.chain .LtE .LtE (.int 1) (.bi1 .len (.var 1)) (.glob (Str.ofString "MOST_HANDS")))) .nil))) [.ret (.bl false)] [],
  .ret (.nt (.lc (.one 2) (.seq (.var 1)) (.some (.nt (.call (Str.ofString "is_within") (.cons (.var 2) (.cons (.int 0) (.cons (.bin .Sub (.var 0) (.int 1)) .nil)))))) (.var 2)))]⟩
def d_look_stand : Df := ⟨2, 2, [
  .ite (.nt (.call (Str.ofString "is_stand") (.cons (.var 0) (.cons (.var 1) .nil)))) [.raise (Str.ofString "BadStand") (Str.ofString "no stand")] []]⟩
def d_told_apart : Df := ⟨2, 2, [
  .ite (.cmp .Eq (.var 0) (.str (Str.ofString "all"))) [.ret (.var 1)] [],
  .ite (.cmp .Eq (.var 0) (.str (Str.ofString "many"))) [.ret (.mn2 (.var 1) (.int 2))] [],
  .ret (.mn2 (.var 1) (.int 1))]⟩
def d_seen_along : Df := ⟨5, 6, [
  .ret (.bi1 .tuple (.lc (.one 5) (.rng1 (.var 0)) .no (.call (Str.ofString "told_apart") (.cons (.var 1) (.cons (.cnt (.var 2) (.bin .Mod (.bin .Add (.var 3) (.bin .Mult (.var 4) (.var 5))) (.var 0))) .nil)))))]⟩
def d_turned_view : Df := ⟨1, 1, [
  .ret (.bin .Add (.sl (.var 0) .no (.some (.int 1))) (.tl0 (.var 0)))]⟩
def d_view_at : Df := ⟨4, 5, [
  .set 4 (.call (Str.ofString "seen_along") (.cons (.var 0) (.cons (.var 1) (.cons (.var 2) (.cons (.var 3) (.cons (.int 1) .nil)))))),
  .ret (.mn2 (.var 4) (.call (Str.ofString "turned_view") (.cons (.var 4) .nil)))]⟩
def d_all_stands : Df := ⟨2, 4, [
  .set 2 (.lst (.cons (.tup .nil) .nil)),
  .for (.one 3) (.rng1 (.var 1)) [.set 2 (.call (Str.ofString "longer") (.cons (.var 2) (.cons (.var 0) .nil)))],
  .ret (.var 2)]⟩
def d_longer : Df := ⟨2, 5, [
  .newL 2 .nil,
  .for (.one 3) (.seq (.var 0)) [.ext 2 (.lc (.one 4) (.rng1 (.var 1)) .no (.bin .Add (.var 3) (.tup (.cons (.var 4) .nil))))],
  .frz 2,
  .ret (.var 2)]⟩
def d_is_view : Df := ⟨3, 5, [
  .set 3 (.disp [(Str.ofString "all"), (Str.ofString "many"), (Str.ofString "some")] (.cons (.glob (Str.ofString "MOST_HANDS")) (.cons (.int 2) (.cons (.int 1) .nil))) (.var 1)),
  .ite (.bop .Or (.cons (.nt (.isi (.var 2) "tuple")) (.cons (.cmp .NotEq (.bi1 .len (.var 2)) (.var 0)) (.cons (.lc (.one 4) (.seq (.var 2)) (.some (.nt (.call (Str.ofString "is_within") (.cons (.var 4) (.cons (.int 0) (.cons (.var 3) .nil)))))) (.var 4)) .nil)))) [.ret (.bl false)] [],
  .ret (.bop .And (.cons (.cmp .Gt (.ix (.var 2) (.int 0)) (.int 0)) (.cons (.cmp .LtE (.bi1 .sum (.var 2)) (.glob (Str.ofString "MOST_HANDS"))) (.cons (.cmp .LtE (.var 2) (.call (Str.ofString "turned_view") (.cons (.var 2) .nil))) .nil))))]⟩
def d_are_rules : Df := ⟨3, 5, [
  .ite (.bop .Or (.cons (.nt (.isi (.var 2) "tuple")) (.cons (.cmp .Gt (.bi1 .len (.var 2)) (.glob (Str.ofString "MOST_RULES"))) .nil))) [.ret (.bl false)] [],
  .for (.many [3, 4]) (.enm (.var 2)) [.ite (.bop .Or (.cons (.nt (.isi (.var 4) "tuple")) (.cons (.cmp .NotEq (.bi1 .len (.var 4)) (.int 2)) (.cons (.nt (.call (Str.ofString "is_view") (.cons (.var 0) (.cons (.var 1) (.cons (.ix (.var 4) (.int 0)) .nil))))) .nil)))) [.ret (.bl false)] [], .ite (.bop .Or (.cons (.cmp .NotIn (.ix (.var 4) (.int 1)) (.tup (.cons (.str (Str.ofString "on")) (.cons (.str (Str.ofString "back")) .nil)))) (.cons (.nt (.isi (.ix (.var 4) (.int 1)) "str")) (.cons (.bop .And (.cons (.cmp .Gt (.var 3) (.int 0)) (.cons (.cmp .LtE (.ix (.var 4) (.int 0)) (.ix (.ix (.var 2) (.bin .Sub (.var 3) (.int 1))) (.int 0))) .nil))) .nil)))) [.ret (.bl false)] []],
  .ret (.bl true)]⟩
def d_checked : Df := ⟨1, 1, [
  .ite (.bop .Or (.cons (.nt (.isi (.var 0) "tuple")) (.cons (.cmp .NotEq (.bi1 .len (.var 0)) (.int 3)) (.cons (.nt (.call (Str.ofString "is_within") (.cons (.ix (.var 0) (.int 0)) (.cons (.glob (Str.ofString "LEAST_SIZE")) (.cons (.glob (Str.ofString "MOST_SIZE")) .nil))))) .nil)))) [.raise (Str.ofString "BadBook") (Str.ofString "no book")] [],
  .ite (.bop .Or (.cons (.nt (.isi (.ix (.var 0) (.int 1)) "str")) (.cons (.inG true (.ix (.var 0) (.int 1)) (Str.ofString "SIGHTS")) (.cons (.nt (.call (Str.ofString "are_rules") (.cons (.ix (.var 0) (.int 0)) (.cons (.ix (.var 0) (.int 1)) (.cons (.ix (.var 0) (.int 2)) .nil))))) .nil)))) [.raise (Str.ofString "BadBook") (Str.ofString "no sight, or no rules")] [],
  .ret (.var 0)]⟩
def d_look : Df := ⟨2, 2, [
  .expr (.call (Str.ofString "checked") (.cons (.var 0) .nil)),
  .expr (.call (Str.ofString "look_stand") (.cons (.ix (.var 0) (.int 0)) (.cons (.var 1) .nil)))]⟩
def d_view : Df := ⟨3, 3, [
  .expr (.call (Str.ofString "look") (.cons (.var 0) (.cons (.var 1) .nil))),
  .ite (.nt (.call (Str.ofString "is_within") (.cons (.var 2) (.cons (.int 0) (.cons (.bin .Sub (.bi1 .len (.var 1)) (.int 1)) .nil))))) [.raise (Str.ofString "BadHand") (Str.ofString "no hand")] [],
  .ret (.call (Str.ofString "view_at") (.cons (.ix (.var 0) (.int 0)) (.cons (.ix (.var 0) (.int 1)) (.cons (.var 1) (.cons (.ix (.var 1) (.var 2)) .nil)))))]⟩
def d_views_of : Df := ⟨3, 6, [
  .newD 3,
  .for (.one 4) (.seq (.call (Str.ofString "all_stands") (.cons (.var 0) (.cons (.var 2) .nil)))) [.for (.one 5) (.seq (.var 4)) [.dput 3 (.call (Str.ofString "view_at") (.cons (.var 0) (.cons (.var 1) (.cons (.var 4) (.cons (.var 5) .nil))))) (.bl true)]],
  .frz 3,
  .ret (.bi1 .sorted (.var 3))]⟩
def d_views : Df := ⟨3, 3, [
  .ite (.bop .Or (.cons (.nt (.call (Str.ofString "is_within") (.cons (.var 0) (.cons (.glob (Str.ofString "LEAST_SIZE")) (.cons (.glob (Str.ofString "MOST_SIZE")) .nil))))) (.cons (.nt (.isi (.var 1) "str")) (.cons (.inG true (.var 1) (Str.ofString "SIGHTS")) .nil)))) [.raise (Str.ofString "BadBook") (Str.ofString "no ring, or no sight")] [],
  .ite (.nt (.call (Str.ofString "is_within") (.cons (.var 2) (.cons (.int 1) (.cons (.glob (Str.ofString "MOST_HANDS")) .nil))))) [.raise (Str.ofString "TooBig") (Str.ofString "no such number of hands")] [],
  .ret (.call (Str.ofString "views_of") (.cons (.var 0) (.cons (.var 1) (.cons (.var 2) .nil))))]⟩
def d_law_cell : Df := ⟨2, 2, [
  .ite (.cmp .Lt (.var 1) (.bi1 .len (.var 0))) [.ret (.ix (.var 0) (.var 1))] [],
  .ret (.int 0)]⟩
def d_law_mix : Df := ⟨3, 3, [
  .ret (.bin .Mod (.bin .Mod (.bin .Pow (.bin .Mod (.bin .Mult (.var 0) (.int 48271)) (.var 1)) (.int 3)) (.var 1)) (.var 2))]⟩
def d_law_row : Df := ⟨5, 9, [
  .newL 5 .nil,
  .for (.one 6) (.rng1 (.var 0)) [.set 7 (.bi1 .len (.lc (.one 8) (.seq (.var 2)) (.some (.cmp .Eq (.var 8) (.bin .Mod (.bin .Add (.var 3) (.bin .Mult (.var 4) (.var 6))) (.var 0)))) (.var 8))), .ite (.bop .And (.cons (.cmp .Eq (.var 1) (.str (Str.ofString "many"))) (.cons (.cmp .Gt (.var 7) (.int 2)) .nil))) [.set 7 (.int 2)] [], .ite (.bop .And (.cons (.cmp .Eq (.var 1) (.str (Str.ofString "some"))) (.cons (.cmp .Gt (.var 7) (.int 1)) .nil))) [.set 7 (.int 1)] [], .app 5 (.var 7)],
  .frz 5,
  .ret (.bi1 .tuple (.var 5))]⟩
def d_law_view : Df := ⟨4, 4, [
  .ret (.mn2 (.call (Str.ofString "_law_row") (.cons (.var 0) (.cons (.var 1) (.cons (.var 2) (.cons (.var 3) (.cons (.int 1) .nil)))))) (.call (Str.ofString "_law_row") (.cons (.var 0) (.cons (.var 1) (.cons (.var 2) (.cons (.var 3) (.cons (.neg 1) .nil)))))))]⟩
def d_law_stands : Df := ⟨2, 7, [
  .set 2 (.lst (.cons (.tup .nil) .nil)),
  .for (.one 3) (.rng1 (.var 1)) [.set 4 (.lst .nil), .for (.one 5) (.seq (.var 2)) [.set 4 (.bin .Add (.var 4) (.lc (.one 6) (.rng1 (.var 0)) .no (.bin .Add (.var 5) (.tup (.cons (.var 6) .nil)))))], .set 2 (.var 4)],
  .ret (.var 2)]⟩
def d_law_views : Df := ⟨3, 6, [
  .newD 3,
  .for (.one 4) (.seq (.call (Str.ofString "_law_stands") (.cons (.var 0) (.cons (.var 2) .nil)))) [.for (.one 5) (.seq (.var 4)) [.dput 3 (.call (Str.ofString "_law_view") (.cons (.var 0) (.cons (.var 1) (.cons (.var 4) (.cons (.var 5) .nil))))) (.bl true)]],
  .frz 3,
  .ret (.bi1 .sorted (.var 3))]⟩
def d_law_many : Df := ⟨2, 4, [
  .set 2 (.lst (.cons (.tup (.cons (.int 3) (.cons (.int 2) .nil))) (.cons (.tup (.cons (.int 4) (.cons (.int 2) .nil))) (.cons (.tup (.cons (.int 5) (.cons (.int 2) .nil))) (.cons (.tup (.cons (.int 3) (.cons (.int 3) .nil))) (.cons (.tup (.cons (.int 4) (.cons (.int 3) .nil))) (.cons (.tup (.cons (.int 3) (.cons (.int 1) .nil))) (.cons (.tup (.cons (.int 6) (.cons (.int 2) .nil))) (.cons (.tup (.cons (.int 4) (.cons (.int 2) .nil))) (.cons (.tup (.cons (.int 5) (.cons (.int 3) .nil))) (.cons (.tup (.cons (.int 7) (.cons (.int 2) .nil))) (.cons (.tup (.cons (.int 3) (.cons (.int 4) .nil))) .nil)))))))))))),
  .set 3 (.int 8),
  .ite (.cmp .Eq (.call (Str.ofString "_law_mix") (.cons (.bin .Add (.call (Str.ofString "_law_cell") (.cons (.var 0) (.cons (.int 0) .nil))) (.bin .Mult (.int 7) (.bi1 .len (.var 0)))) (.cons (.int 9871) (.cons (.int 8) .nil)))) (.int 3)) [.set 3 (.int 11)] [],
  .ret (.ix (.var 2) (.call (Str.ofString "_law_mix") (.cons (.call (Str.ofString "_law_cell") (.cons (.var 0) (.cons (.var 1) .nil))) (.cons (.int 9973) (.cons (.var 3) .nil)))))]⟩
def d_law_book : Df := ⟨2, 9, [
  .setT [4, 5] (.call (Str.ofString "_law_many") (.cons (.var 0) (.cons (.var 1) .nil))),
  .set 2 (.ix (.lst (.cons (.str (Str.ofString "all")) (.cons (.str (Str.ofString "many")) (.cons (.str (Str.ofString "some")) (.cons (.str (Str.ofString "all")) .nil))))) (.call (Str.ofString "_law_mix") (.cons (.call (Str.ofString "_law_cell") (.cons (.var 0) (.cons (.var 1) .nil))) (.cons (.int 9967) (.cons (.int 4) .nil))))),
  .newL 3 .nil,
  .for (.many [6, 7]) (.enm (.call (Str.ofString "_law_views") (.cons (.var 4) (.cons (.var 2) (.cons (.var 5) .nil))))) [.set 8 (.call (Str.ofString "_law_mix") (.cons (.bin .Pow (.bin .Add (.call (Str.ofString "_law_cell") (.cons (.var 0) (.cons (.bin .Add (.var 1) (.int 1)) .nil))) (.bin .Mult (.int 41) (.var 6))) (.int 2)) (.cons (.int 9949) (.cons (.int 4) .nil)))), .ite (.cmp .Gt (.var 8) (.int 0)) [.app 3 (.tup (.cons (.var 7) (.cons (.ix (.lst (.cons (.str (Str.ofString "on")) (.cons (.str (Str.ofString "back")) (.cons (.str (Str.ofString "on")) .nil)))) (.bin .Sub (.var 8) (.int 1))) .nil)))] []],
  .frz 3,
  .ret (.tup (.cons (.var 4) (.cons (.var 2) (.cons (.bi1 .tuple (.sl (.var 3) .no (.some (.int 40)))) .nil))))]⟩
def d_law_stand : Df := ⟨4, 5, [
  .ret (.bi1 .tuple (.lc (.one 4) (.rng1 (.var 3)) .no (.call (Str.ofString "_law_mix") (.cons (.bin .Pow (.bin .Add (.call (Str.ofString "_law_cell") (.cons (.var 0) (.cons (.var 1) .nil))) (.bin .Mult (.int 41) (.var 4))) (.int 2)) (.cons (.int 9941) (.cons (.var 2) .nil))))))]⟩
def d_law_k03 : Df := ⟨1, 10, [
  .set 1 (.call (Str.ofString "_law_book") (.cons (.var 0) (.cons (.int 2) .nil))),
  .setT [7, 8] (.call (Str.ofString "_law_many") (.cons (.var 0) (.cons (.int 2) .nil))),
  .set 2 (.call (Str.ofString "_law_stand") (.cons (.var 0) (.cons (.int 4) (.cons (.var 7) (.cons (.var 8) .nil))))),
  .set 3 (.bin .Mod (.call (Str.ofString "_law_cell") (.cons (.var 0) (.cons (.int 0) .nil))) (.var 8)),
  .set 4 (.call (Str.ofString "view") (.cons (.var 1) (.cons (.var 2) (.cons (.var 3) .nil)))),
  .ite (.bop .Or (.cons (.nt (.isi (.var 4) "tuple")) (.cons (.cmp .NotEq (.var 4) (.call (Str.ofString "_law_view") (.cons (.var 7) (.cons (.ix (.var 1) (.int 1)) (.cons (.var 2) (.cons (.ix (.var 2) (.var 3)) .nil)))))) .nil))) [.ret (.bl false)] [],
  .set 5 (.bi1 .tuple (.lc (.one 9) (.seq (.var 2)) .no (.bin .Mod (.bin .Sub (.var 7) (.var 9)) (.var 7)))),
  .ite (.cmp .NotEq (.call (Str.ofString "view") (.cons (.var 1) (.cons (.var 5) (.cons (.var 3) .nil)))) (.var 4)) [.ret (.bl false)] [],
  .set 6 (.call (Str.ofString "views") (.cons (.var 7) (.cons (.ix (.var 1) (.int 1)) (.cons (.var 8) .nil)))),
  .ret (.bop .And (.cons (.isi (.var 6) "list") (.cons (.cmp .Eq (.var 6) (.call (Str.ofString "_law_views") (.cons (.var 7) (.cons (.ix (.var 1) (.int 1)) (.cons (.var 8) .nil))))) (.cons (.cmp .In (.var 4) (.var 6)) .nil))))]⟩
end Cd
end Rh

set_option Elab.async false
set_option linter.all false
set_option maxRecDepth 100000
set_option maxHeartbeats 1000000
/-! The evaluator's equations, one for each construct. -/
namespace Rh
open PySem (PyData Str)
def retO : Out → Res PyData
  | .rt v => .ok v
  | .nx _ => .ok .none
  | .err c => .err c
  | _ => .stuck
namespace Q
variable {g : Str → Option PyData} {f : Str → List PyData → Res PyData} {δ : Ev}
theorem var {i : Nat} : ev g f (.var i) δ = (match δ[i]? with
    | some (some (.sh d)) => .ok d
    | _ => .stuck) := by first | rfl | (simp only [ev]; done) | (simp only [ev]; rfl)
theorem int {n : Int} : ev g f (.int n) δ = .ok (.int n) := by first | rfl | (simp only [ev]; done) | (simp only [ev]; rfl)
theorem neg {n : Int} : ev g f (.neg n) δ = .ok (.int (-n)) := by first | rfl | (simp only [ev]; done) | (simp only [ev]; rfl)
theorem str {n : Str} : ev g f (.str n) δ = .ok (.str n) := by first | rfl | (simp only [ev]; done) | (simp only [ev]; rfl)
theorem bl {n : Bool} : ev g f (.bl n) δ = .ok (.bool n) := by first | rfl | (simp only [ev]; done) | (simp only [ev]; rfl)
theorem non : ev g f .non δ = .ok .none := by first | rfl | (simp only [ev]; done) | (simp only [ev]; rfl)
theorem glob {x : Str} : ev g f (.glob x) δ = .ofO (g x) := by first | rfl | (simp only [ev]; done) | (simp only [ev]; rfl)
theorem tup {es : DEs} : ev g f (.tup es) δ = (evs g f es δ).bind fun ds => if ds.length ≤ lim then .ok (.tuple ds) else .stuck := by first | rfl | (simp only [ev]; done) | (simp only [ev]; rfl)
theorem lst {es : DEs} : ev g f (.lst es) δ = (evs g f es δ).bind fun ds => if ds.length ≤ lim then .ok (.list ds) else .stuck := by first | rfl | (simp only [ev]; done) | (simp only [ev]; rfl)
theorem bin {op : PySem.Operator} {a b : DE} : ev g f (.bin op a b) δ = (ev g f a δ).bind fun x => (ev g f b δ).bind fun y => .ofO (binD op x y) := by first | rfl | (simp only [ev]; done) | (simp only [ev]; rfl)
theorem cmp {op : PySem.CmpOp} {a b : DE} : ev g f (.cmp op a b) δ = (ev g f a δ).bind fun x => (ev g f b δ).bind fun y => .ofO ((cmpD op x y).map .bool) := by first | rfl | (simp only [ev]; done) | (simp only [ev]; rfl)
theorem chain {o1 o2 : PySem.CmpOp} {a b c : DE} : ev g f (.chain o1 o2 a b c) δ = (ev g f a δ).bind fun x => (ev g f b δ).bind fun y => (Res.ofO (cmpD o1 x y)).bind fun k =>
      if k then (ev g f c δ).bind fun z => .ofO ((cmpD o2 y z).map .bool) else .ok (.bool false) := by first | rfl | (simp only [ev]; done) | (simp only [ev]; rfl)
theorem inG {no : Bool} {a : DE} {x : Str} : ev g f (.inG no a x) δ = (ev g f a δ).bind fun y => (match g x with
    | some (.tuple ys) => .ofO ((inD y ys).map fun k => .bool (if no then !k else k))
    | _ => .stuck) := by first | rfl | (simp only [ev]; done) | (simp only [ev]; rfl)
theorem nt {a : DE} : ev g f (.nt a) δ = (ev g f a δ).bind fun x => .ofO ((truth x).map fun k => .bool (!k)) := by first | rfl | (simp only [ev]; done) | (simp only [ev]; rfl)
theorem bop {op : PySem.BoolOp} {es : DEs} : ev g f (.bop op es) δ = evb g f op es δ := by first | rfl | (simp only [ev]; done) | (simp only [ev]; rfl)
theorem ite {c a b : DE} : ev g f (.ite c a b) δ = (ev g f c δ).bind fun x => (match truth x with
    | some true => ev g f a δ
    | some false => ev g f b δ
    | none => .stuck) := by first | rfl | (simp only [ev]; done) | (simp only [ev]; rfl)
theorem ix {a b : DE} : ev g f (.ix a b) δ = (ev g f a δ).bind fun x => (ev g f b δ).bind fun y => .ofO (ixD x y) := by first | rfl | (simp only [ev]; done) | (simp only [ev]; rfl)
theorem sl {a : DE} {lo hi : DO} : ev g f (.sl a lo hi) δ = (ev g f a δ).bind fun x => (evo g f lo δ).bind fun l => (evo g f hi δ).bind fun h => (match x with
    | .list xs => .ok (.list (cut xs l h))
    | .tuple xs => .ok (.tuple (cut xs l h))
    | _ => .stuck) := by first | rfl | (simp only [ev]; done) | (simp only [ev]; rfl)
theorem tl0 {a : DE} : ev g f (.tl0 a) δ = (ev g f a δ).bind fun x => (match x with
    | .tuple xs => .ok (.tuple xs.tail.reverse)
    | _ => .stuck) := by first | rfl | (simp only [ev]; done) | (simp only [ev]; rfl)
theorem rev {a : DE} : ev g f (.rev a) δ = (ev g f a δ).bind fun x => (match x with
    | .list xs => .ok (.list xs.reverse)
    | _ => .stuck) := by first | rfl | (simp only [ev]; done) | (simp only [ev]; rfl)
theorem disp {ks : List Str} {vs : DEs} {e : DE} : ev g f (.disp ks vs e) δ = (evs g f vs δ).bind fun ds => (ev g f e δ).bind fun k => (match k with
    | .str x => if ks.length = ds.length ∧ ks.Nodup then .ofO ((ks.zip ds).lookup x) else .stuck
    | _ => .stuck) := by first | rfl | (simp only [ev]; done) | (simp only [ev]; rfl)
theorem call {x : Str} {es : DEs} : ev g f (.call x es) δ = (evs g f es δ).bind fun ds => f x ds := by first | rfl | (simp only [ev]; done) | (simp only [ev]; rfl)
theorem bi1 {b : Bi} {e : DE} : ev g f (.bi1 b e) δ = (ev g f e δ).bind fun x => .ofO (bi1D b x) := by first | rfl | (simp only [ev]; done) | (simp only [ev]; rfl)
theorem mn2 {a b : DE} : ev g f (.mn2 a b) δ = (ev g f a δ).bind fun x => (ev g f b δ).bind fun y => .ofO (mn2D x y) := by first | rfl | (simp only [ev]; done) | (simp only [ev]; rfl)
theorem isi {e : DE} {T : String} : ev g f (.isi e T) δ = (ev g f e δ).bind fun x => .ofO ((isiD T x).map .bool) := by first | rfl | (simp only [ev]; done) | (simp only [ev]; rfl)
theorem cnt {o a : DE} : ev g f (.cnt o a) δ = (ev g f o δ).bind fun x => (match x with
    | .tuple xs => (ev g f a δ).bind fun y => .ofO (cntD (.tuple xs) y)
    | _ => .stuck) := by first | rfl | (simp only [ev]; done) | (simp only [ev]; rfl)
theorem tupRg {e : DE} : ev g f (.tupRg e) δ = (ev g f e δ).bind fun x => (match x with
    | .int n => if small n then .ok (.tuple (rangeD 0 n)) else .stuck
    | _ => .stuck) := by first | rfl | (simp only [ev]; done) | (simp only [ev]; rfl)
theorem lstRg {e : DE} : ev g f (.lstRg e) δ = (ev g f e δ).bind fun x => (match x with
    | .int n => if small n then .ok (.list (rangeD 0 n)) else .stuck
    | _ => .stuck) := by first | rfl | (simp only [ev]; done) | (simp only [ev]; rfl)
theorem lenS {e : DE} : ev g f (.lenS e) δ = (ev g f e δ).bind fun x => .ofO (lenSD x) := by first | rfl | (simp only [ev]; done) | (simp only [ev]; rfl)
theorem sset {e : DE} : ev g f (.sset e) δ = (ev g f e δ).bind fun x => .ofO (ssetD x) := by first | rfl | (simp only [ev]; done) | (simp only [ev]; rfl)
theorem idx {i : Nat} {e : DE} : ev g f (.idx i e) δ = (match δ[i]? with
    | some (some (.sh (.list xs))) => (ev g f e δ).bind fun y => .ofO (idxD (.list xs) y)
    | _ => .stuck) := by first | rfl | (simp only [ev]; done) | (simp only [ev]; rfl)
theorem lenO {i : Nat} : ev g f (.lenO i) δ = (match δ[i]? with
    | some (some (.own (.list xs))) => .ok (.int xs.length)
    | _ => .stuck) := by first | rfl | (simp only [ev]; done) | (simp only [ev]; rfl)
theorem ixO {i : Nat} {e : DE} : ev g f (.ixO i e) δ = (match δ[i]? with
    | some (some (.own (.list xs))) => (ev g f e δ).bind fun y => (match y with
      | .int k => .ofO (L2.atI xs k)
      | _ => .stuck)
    | some (some (.own (.dict kvs))) => (ev g f e δ).bind fun k => if isKey k then .ofO (dlook kvs k) else .stuck
    | _ => .stuck) := by first | rfl | (simp only [ev]; done) | (simp only [ev]; rfl)
theorem nil : evs g f .nil δ = .ok [] := by first | rfl | (simp only [evs]; done) | (simp only [evs]; rfl)
theorem cons {e : DE} {es : DEs} : evs g f (.cons e es) δ = (ev g f e δ).bind fun x => (evs g f es δ).bind fun xs => .ok (x :: xs) := by first | rfl | (simp only [evs]; done) | (simp only [evs]; rfl)
theorem b1 {op : PySem.BoolOp} {e : DE} : evb g f op (.cons e .nil) δ = ev g f e δ := evb_one op e g f δ
theorem and2 {e e2 : DE} {es : DEs} : evb g f .And (.cons e (.cons e2 es)) δ = (ev g f e δ).bind fun x => (match truth x with
      | some true => evb g f .And (.cons e2 es) δ
      | some false => .ok x
      | none => .stuck) := by
  rw [evb_more]
  congr
  funext x
  cases truth x with
  | none => rfl
  | some k => cases k <;> rfl
theorem or2 {e e2 : DE} {es : DEs} : evb g f .Or (.cons e (.cons e2 es)) δ = (ev g f e δ).bind fun x => (match truth x with
      | some false => evb g f .Or (.cons e2 es) δ
      | some true => .ok x
      | none => .stuck) := by
  rw [evb_more]
  congr
  funext x
  cases truth x with
  | none => rfl
  | some k => cases k <;> rfl
theorem no : evo g f .no δ = .ok none := by first | rfl | (simp only [evo]; done) | (simp only [evo]; rfl)
theorem some_ {e : DE} : evo g f (.some e) δ = (ev g f e δ).bind fun x => (match x with
    | .int i => .ok (some i)
    | _ => .stuck) := by first | rfl | (simp only [evo]; done) | (simp only [evo]; rfl)
theorem seq {e : DE} : evi g f (.seq e) δ = (ev g f e δ).bind fun x => (match x with
    | .list xs => .ok xs
    | .tuple xs => .ok xs
    | _ => .stuck) := by first | rfl | (simp only [evi]; done) | (simp only [evi]; rfl)
theorem rng1 {e : DE} : evi g f (.rng1 e) δ = (ev g f e δ).bind fun x => (match x with
    | .int n => if small n then .ok (rangeD 0 n) else .stuck
    | _ => .stuck) := by first | rfl | (simp only [evi]; done) | (simp only [evi]; rfl)
theorem rng2 {a b : DE} : evi g f (.rng2 a b) δ = (ev g f a δ).bind fun x => (ev g f b δ).bind fun y => (match x, y with
    | .int i, .int j => if small i && small j then .ok (rangeD i j) else .stuck
    | _, _ => .stuck) := by first | rfl | (simp only [evi]; done) | (simp only [evi]; rfl)
theorem enm {e : DE} : evi g f (.enm e) δ = (ev g f e δ).bind fun x => (match x with
    | .list xs => .ok (xs.mapIdx fun k x => .tuple [.int k, x])
    | .tuple xs => .ok (xs.mapIdx fun k x => .tuple [.int k, x])
    | _ => .stuck) := by first | rfl | (simp only [evi]; done) | (simp only [evi]; rfl)
theorem zp {a b : DE} : evi g f (.zp a b) δ = (ev g f a δ).bind fun x => (ev g f b δ).bind fun y => (match x, y with
    | .tuple xs, .tuple ys => .ok ((xs.zip ys).map fun p => .tuple [p.1, p.2])
    | _, _ => .stuck) := by first | rfl | (simp only [evi]; done) | (simp only [evi]; rfl)
/-! statements -/
theorem s_nil : Rh.execs g f [] δ = .nx δ := by first | rfl | (simp only [Rh.execs]; done) | (simp only [Rh.execs]; rfl)
theorem s_cons {c : DS} {cs : List DS} : Rh.execs g f (c :: cs) δ = (match Rh.exec g f c δ with
    | .nx δ' => Rh.execs g f cs δ'
    | o => o) := by first | rfl | (simp only [Rh.execs]; done) | (simp only [Rh.execs]; rfl)
theorem s_set {i : Nat} {e : DE} : Rh.exec g f (.set i e) δ = .ofR (ev g f e δ) fun d => .nx (slot δ i (.sh d)) := by first | rfl | (simp only [Rh.exec]; done) | (simp only [Rh.exec]; rfl)
theorem s_setT {is : List Nat} {e : DE} : Rh.exec g f (.setT is e) δ = .ofR (ev g f e δ) fun d => (match setTg (.many is) d δ with
    | some δ' => .nx δ'
    | none => .stuck) := by first | rfl | (simp only [Rh.exec]; done) | (simp only [Rh.exec]; rfl)
theorem s_newL {i : Nat} {es : DEs} : Rh.exec g f (.newL i es) δ = .ofR (evs g f es δ) fun ds => if ds.length ≤ lim then .nx (slot δ i (.own (.list ds))) else .stuck := by first | rfl | (simp only [Rh.exec]; done) | (simp only [Rh.exec]; rfl)
theorem s_newD {i : Nat} : Rh.exec g f (.newD i) δ = .nx (slot δ i (.own (.dict []))) := by first | rfl | (simp only [Rh.exec]; done) | (simp only [Rh.exec]; rfl)
theorem s_app {i : Nat} {e : DE} : Rh.exec g f (.app i e) δ = (match δ[i]? with
    | some (some (.own (.list xs))) => .ofR (ev g f e δ) fun d => if xs.length < lim then .nx (slot δ i (.own (.list (xs ++ [d])))) else .stuck
    | _ => .stuck) := by first | rfl | (simp only [Rh.exec]; done) | (simp only [Rh.exec]; rfl)
theorem s_ext {i : Nat} {e : DE} : Rh.exec g f (.ext i e) δ = (match δ[i]? with
    | some (some (.own (.list xs))) => .ofR (ev g f e δ) fun d => (match d with
      | .list ys => if xs.length + ys.length ≤ lim then .nx (slot δ i (.own (.list (xs ++ ys)))) else .stuck
      | _ => .stuck)
    | _ => .stuck) := by first | rfl | (simp only [Rh.exec]; done) | (simp only [Rh.exec]; rfl)
theorem s_dput {i : Nat} {k v : DE} : Rh.exec g f (.dput i k v) δ = .ofR (ev g f v δ) fun d => (match δ[i]? with
    | some (some (.own (.dict kvs))) => .ofR (ev g f k δ) fun kd => if isKey kd && decide (kvs.length < lim) then .nx (slot δ i (.own (.dict (dput kd d kvs)))) else .stuck
    | _ => .stuck) := by first | rfl | (simp only [Rh.exec]; done) | (simp only [Rh.exec]; rfl)
theorem s_expr {e : DE} : Rh.exec g f (.expr e) δ = .ofR (ev g f e δ) fun _ => .nx δ := by first | rfl | (simp only [Rh.exec]; done) | (simp only [Rh.exec]; rfl)
theorem s_ret {e : DE} : Rh.exec g f (.ret e) δ = .ofR (ev g f e δ) fun d => .rt d := by first | rfl | (simp only [Rh.exec]; done) | (simp only [Rh.exec]; rfl)
theorem s_retN : Rh.exec g f .retN δ = .rt .none := by first | rfl | (simp only [Rh.exec]; done) | (simp only [Rh.exec]; rfl)
theorem s_ite {c : DE} {a b : List DS} : Rh.exec g f (.ite c a b) δ = .ofR (ev g f c δ) fun x => (match truth x with
    | some true => Rh.execs g f a δ
    | some false => Rh.execs g f b δ
    | none => .stuck) := by first | rfl | (simp only [Rh.exec]; done) | (simp only [Rh.exec]; rfl)
theorem s_for {t : Tg} {it : IT} {b : List DS} : Rh.exec g f (.for t it b) δ = .ofR (evi g f it δ) fun xs => forL (Rh.execs g f b) t xs δ := by first | rfl | (simp only [Rh.exec]; done) | (simp only [Rh.exec]; rfl)
theorem s_raise {c m : Str} : Rh.exec g f (.raise c m) δ = .err c := by first | rfl | (simp only [Rh.exec]; done) | (simp only [Rh.exec]; rfl)
theorem s_catO {i : Nat} {e : DE} : Rh.exec g f (.catO i e) δ = (match δ[i]? with
    | some (some (.own (.list xs))) => .ofR (ev g f e δ) fun d => (match d with
      | .list ys => if xs.length + ys.length ≤ lim then .nx (slot δ i (.own (.list (xs ++ ys)))) else .stuck
      | _ => .stuck)
    | _ => .stuck) := by first | rfl | (simp only [Rh.exec]; done) | (simp only [Rh.exec]; rfl)
theorem s_tryE {b : TrB} {es : List Str} {C : Str} {i : Nat} {h : List HS} : Rh.exec g f (.tryE b es C i h) δ = tryO δ es C i h (evT g f b δ) := by first | rfl | (simp only [Rh.exec]; done) | (simp only [Rh.exec]; rfl)
theorem s_frz {i : Nat} : Rh.exec g f (.frz i) δ = (match δ[i]? with
    | some (some (.own d)) => .nx (slot δ i (.sh d))
    | _ => .stuck) := by first | rfl | (simp only [Rh.exec]; done) | (simp only [Rh.exec]; rfl)
end Q
end Rh

set_option Elab.async false
set_option linter.all false
set_option maxRecDepth 100000
set_option maxHeartbeats 1000000
/-! What the core code computes: rings and books. -/
namespace Rh
open PySem (PyData Str)
open Cd
section
variable {g : Str → Option PyData} {tab : Str → Option Df} {k : Nat}
theorem run_is {x : Str} {d : Df} {ds : List PyData} (h : tab x = some d) (hl : ds.length = d.np) : run g tab (k + 1) x ds = retO (Rh.execs g (run g tab k) d.body (entry d ds)) := by
  rw [run_succ h, if_pos hl]
  cases Rh.execs g (run g tab k) d.body (entry d ds) <;> rfl
abbrev iT (xs : List Int) : PyData := .tuple (xs.map .int)
def within (x : PyData) (lo hi : Int) : Bool := match x with
  | .int i => decide (lo ≤ i) && decide (i ≤ hi)
  | _ => false
theorem is_within_ok (h : tab (Str.ofString "is_within") = some d_is_within) (x : PyData) (lo hi : Int) (hx : ∀ q, x ≠ .dict q) : run g tab (k + 1) (Str.ofString "is_within") [x, .int lo, .int hi] = .ok (.bool (within x lo hi)) := by
  rw [run_is h rfl]
  cases x with
  | int i =>
    by_cases h1 : lo ≤ i
    · simp [d_is_within, Q.var, Q.int, Q.neg, Q.str, Q.bl, Q.non, Q.glob, Q.tup, Q.lst, Q.bin, Q.cmp, Q.chain, Q.inG, Q.nt, Q.bop, Q.ite, Q.ix, Q.sl, Q.tl0, Q.rev, Q.disp, Q.call, Q.bi1, Q.mn2, Q.isi, Q.cnt, Q.tupRg, Q.lstRg, Q.lenO, Q.ixO, Q.nil, Q.cons, Q.b1, Q.and2, Q.or2, Q.no, Q.some_, Q.seq, Q.rng1, Q.rng2, Q.enm, Q.s_nil, Q.s_cons, Q.s_set, Q.s_setT, Q.s_newL, Q.s_newD, Q.s_app, Q.s_ext, Q.s_dput, Q.s_expr, Q.s_ret, Q.s_retN, Q.s_ite, Q.s_raise, Q.s_frz, Res.bind, Res.ofO, Out.ofR, retO, entry, slot, truth, isiD, cmpD, within, h1]
    · simp [d_is_within, Q.var, Q.int, Q.neg, Q.str, Q.bl, Q.non, Q.glob, Q.tup, Q.lst, Q.bin, Q.cmp, Q.chain, Q.inG, Q.nt, Q.bop, Q.ite, Q.ix, Q.sl, Q.tl0, Q.rev, Q.disp, Q.call, Q.bi1, Q.mn2, Q.isi, Q.cnt, Q.tupRg, Q.lstRg, Q.lenO, Q.ixO, Q.nil, Q.cons, Q.b1, Q.and2, Q.or2, Q.no, Q.some_, Q.seq, Q.rng1, Q.rng2, Q.enm, Q.s_nil, Q.s_cons, Q.s_set, Q.s_setT, Q.s_newL, Q.s_newD, Q.s_app, Q.s_ext, Q.s_dput, Q.s_expr, Q.s_ret, Q.s_retN, Q.s_ite, Q.s_raise, Q.s_frz, Res.bind, Res.ofO, Out.ofR, retO, entry, slot, truth, isiD, cmpD, within, h1]
  | dict q => exact absurd rfl (hx q)
  | _ => simp [d_is_within, Q.var, Q.int, Q.neg, Q.str, Q.bl, Q.non, Q.glob, Q.tup, Q.lst, Q.bin, Q.cmp, Q.chain, Q.inG, Q.nt, Q.bop, Q.ite, Q.ix, Q.sl, Q.tl0, Q.rev, Q.disp, Q.call, Q.bi1, Q.mn2, Q.isi, Q.cnt, Q.tupRg, Q.lstRg, Q.lenO, Q.ixO, Q.nil, Q.cons, Q.b1, Q.and2, Q.or2, Q.no, Q.some_, Q.seq, Q.rng1, Q.rng2, Q.enm, Q.s_nil, Q.s_cons, Q.s_set, Q.s_setT, Q.s_newL, Q.s_newD, Q.s_app, Q.s_ext, Q.s_dput, Q.s_expr, Q.s_ret, Q.s_retN, Q.s_ite, Q.s_raise, Q.s_frz, Res.bind, Res.ofO, Out.ofR, retO, entry, slot, truth, isiD, cmpD, within]
theorem str_inj {a b : String} : Str.ofString a = Str.ofString b ↔ a = b := by
  constructor
  · intro h
    rw [Str.ofString_eq_toList, Str.ofString_eq_toList] at h
    injection h with h
    have h2 : a.toList.map Char.toNat = b.toList.map Char.toNat := by simpa using congrArg Array.toList h
    have h3 : a.toList = b.toList := List.map_inj_right (fun x y e => Char.toNat_inj.mp e) |>.mp h2
    exact String.toList_inj.mp h3
  · intro h
    rw [h]
theorem str_beq (a b : String) : (Str.ofString a == Str.ofString b) = decide (a = b) := by
  rw [Bool.eq_iff_iff, beq_iff_eq, str_inj, decide_eq_true_eq]
theorem str_ok (a : String) : PyData.strOk (Str.ofString a) = true := by
  rw [Str.ofString_eq_toList]
  unfold PyData.strOk
  simp
  intro c _
  have h : c.toNat = c.val.toNat := rfl
  have h2 : c.val.toNat < 55296 ∨ (57343 < c.val.toNat ∧ c.val.toNat < 1114112) := c.valid
  omega
theorem shaped_str (a : String) : PySem.SeqAt.shaped (.str (Str.ofString a)) = true := by simp [PySem.SeqAt.shaped, PyData.canLay0, PyData.depth, str_ok]
def told (s : String) (n : Int) : Int := if s = "all" then n else if s = "many" then (if 2 < n then 2 else n) else (if 1 < n then 1 else n)
theorem mn2_int (i j : Int) : mn2D (.int i) (.int j) = some (.int (if j < i then j else i)) := by
  unfold mn2D
  have h : minable [.int i, .int j] = true := by
    simp [minable, PySem.W.alike, PyData.depth, PyData.canLay0, lim]
  rw [if_pos h]
  simp only [minD, minL, PySem.W.dataLt_int]
  by_cases hj : j < i <;> simp [hj]
theorem told_ok (h : tab (Str.ofString "told_apart") = some d_told_apart) (s : String) (n : Int) : run g tab (k + 1) (Str.ofString "told_apart") [.str (Str.ofString s), .int n] = .ok (.int (told s n)) := by
  rw [run_is h rfl]
  by_cases h1 : s = "all"
  · simp [d_told_apart, Q.var, Q.int, Q.neg, Q.str, Q.bl, Q.non, Q.glob, Q.tup, Q.lst, Q.bin, Q.cmp, Q.chain, Q.inG, Q.nt, Q.bop, Q.ite, Q.ix, Q.sl, Q.tl0, Q.rev, Q.disp, Q.call, Q.bi1, Q.mn2, Q.isi, Q.cnt, Q.tupRg, Q.lstRg, Q.lenO, Q.ixO, Q.nil, Q.cons, Q.b1, Q.and2, Q.or2, Q.no, Q.some_, Q.seq, Q.rng1, Q.rng2, Q.enm, Q.s_nil, Q.s_cons, Q.s_set, Q.s_setT, Q.s_newL, Q.s_newD, Q.s_app, Q.s_ext, Q.s_dput, Q.s_expr, Q.s_ret, Q.s_retN, Q.s_ite, Q.s_raise, Q.s_frz, Res.bind, Res.ofO, Out.ofR, retO, entry, slot, truth, cmpD, eqD, shaped_str, told, PyData.eqv, str_beq, h1]
  · by_cases h2 : s = "many"
    · subst h2
      simp [d_told_apart, Q.var, Q.int, Q.neg, Q.str, Q.bl, Q.non, Q.glob, Q.tup, Q.lst, Q.bin, Q.cmp, Q.chain, Q.inG, Q.nt, Q.bop, Q.ite, Q.ix, Q.sl, Q.tl0, Q.rev, Q.disp, Q.call, Q.bi1, Q.mn2, Q.isi, Q.cnt, Q.tupRg, Q.lstRg, Q.lenO, Q.ixO, Q.nil, Q.cons, Q.b1, Q.and2, Q.or2, Q.no, Q.some_, Q.seq, Q.rng1, Q.rng2, Q.enm, Q.s_nil, Q.s_cons, Q.s_set, Q.s_setT, Q.s_newL, Q.s_newD, Q.s_app, Q.s_ext, Q.s_dput, Q.s_expr, Q.s_ret, Q.s_retN, Q.s_ite, Q.s_raise, Q.s_frz, Res.bind, Res.ofO, Out.ofR, retO, entry, slot, truth, cmpD, eqD, shaped_str, told, PyData.eqv, str_beq, mn2_int, h1]
    · simp [d_told_apart, Q.var, Q.int, Q.neg, Q.str, Q.bl, Q.non, Q.glob, Q.tup, Q.lst, Q.bin, Q.cmp, Q.chain, Q.inG, Q.nt, Q.bop, Q.ite, Q.ix, Q.sl, Q.tl0, Q.rev, Q.disp, Q.call, Q.bi1, Q.mn2, Q.isi, Q.cnt, Q.tupRg, Q.lstRg, Q.lenO, Q.ixO, Q.nil, Q.cons, Q.b1, Q.and2, Q.or2, Q.no, Q.some_, Q.seq, Q.rng1, Q.rng2, Q.enm, Q.s_nil, Q.s_cons, Q.s_set, Q.s_setT, Q.s_newL, Q.s_newD, Q.s_app, Q.s_ext, Q.s_dput, Q.s_expr, Q.s_ret, Q.s_retN, Q.s_ite, Q.s_raise, Q.s_frz, Res.bind, Res.ofO, Out.ofR, retO, entry, slot, truth, cmpD, eqD, shaped_str, told, PyData.eqv, str_beq, mn2_int, h1, h2]
/-! ### comprehensions -/
theorem lcLoop_map {body : PyData → Option (Option PyData)} {F : PyData → PyData} : ∀ {xs : List PyData}, (∀ x ∈ xs, body x = some (some (F x))) → lcLoop body xs = some (xs.map F)
  | [], _ => rfl
  | x :: r, h => by
    have ih := lcLoop_map (xs := r) fun y hy => h y (List.mem_cons_of_mem _ hy)
    show (body x).bind _ = _
    rw [h x List.mem_cons_self, ih]
    rfl
theorem lcLoop_filter {body : PyData → Option (Option PyData)} {F : PyData → PyData} {p : PyData → Bool} : ∀ {xs : List PyData}, (∀ x ∈ xs, body x = if p x then some (some (F x)) else some none) → lcLoop body xs = some ((xs.filter p).map F)
  | [], _ => rfl
  | x :: r, h => by
    have ih := lcLoop_filter (xs := r) fun y hy => h y (List.mem_cons_of_mem _ hy)
    show (body x).bind _ = _
    rw [h x List.mem_cons_self, ih, List.filter_cons]
    cases p x <;> rfl
theorem ev_lc_map {f : Str → List PyData → Res PyData} {t : Tg} {it : IT} {e : DE} {δ : Ev} {xs : List PyData} (F : PyData → PyData) (hi : evi g f it δ = .ok xs) (hl : xs.length ≤ lim) (hb : ∀ x ∈ xs, ∃ δ', setTg t x (wipeTg t δ) = some δ' ∧ ev g f e δ' = .ok (F x)) :
    ev g f (.lc t it .no e) δ = .ok (.list (xs.map F)) := by
  simp only [ev]
  rw [hi]
  show Res.ofO _ = _
  rw [lcLoop_map (F := F) fun x hx => ?_]
  · show Res.ofO (if xs.length ≤ lim then _ else _) = _
    rw [if_pos hl]
    rfl
  · obtain ⟨δ', h1, h2⟩ := hb x hx
    simp [h1, h2, evc, okO]
theorem ev_lc_filter {f : Str → List PyData → Res PyData} {t : Tg} {it : IT} {c e : DE} {δ : Ev} {xs : List PyData} (p : PyData → Bool) (F : PyData → PyData) (hi : evi g f it δ = .ok xs) (hl : xs.length ≤ lim)
    (hb : ∀ x ∈ xs, ∃ δ' d, setTg t x (wipeTg t δ) = some δ' ∧ ev g f c δ' = .ok d ∧ truth d = some (p x) ∧ (p x = true → ev g f e δ' = .ok (F x))) :
    ev g f (.lc t it (.some c) e) δ = .ok (.list ((xs.filter p).map F)) := by
  simp only [ev]
  rw [hi]
  show Res.ofO _ = _
  rw [lcLoop_filter (F := F) (p := p) fun x hx => ?_]
  · show Res.ofO (if xs.length ≤ lim then _ else _) = _
    rw [if_pos hl]
    rfl
  · obtain ⟨δ', d, h1, h2, h3, h4⟩ := hb x hx
    rw [h1]
    show (okO (evc g f (.some c) δ')).bind _ = _
    have h5 : evc g f (.some c) δ' = .ok (p x) := by
      simp only [evc]
      rw [h2]
      show Res.ofO (truth d) = _
      rw [h3]
      rfl
    rw [h5]
    cases hp : p x with
    | true => simp [okO, h4 hp]
    | false => simp [okO]
theorem range_len {n : Nat} : (rangeD 0 n).length = n := by
  rw [rangeD_len]
  omega
theorem small_of {n : Nat} (h : n ≤ 1000000) : small (n : Int) = true := by
  unfold small
  rw [decide_eq_true_eq]
  omega
theorem intsD_map : ∀ xs : List Int, intsD (xs.map .int) = some xs
  | [] => rfl
  | x :: r => by
    show (intsD (r.map .int)).map _ = _
    rw [intsD_map r]
    rfl
def seenL (n : Nat) (s : String) (st : List Int) (p step : Int) : List Int := (List.range n).map fun (far : Nat) => told s (st.count ((p + step * far) % n) : Nat)
theorem seen_ok (h1 : tab (Str.ofString "told_apart") = some d_told_apart) (h : tab (Str.ofString "seen_along") = some d_seen_along) (n : Nat) (hn : 0 < n) (hn2 : n ≤ 1000) (s : String) (st : List Int) (p step : Int) :
    run g tab (k + 2) (Str.ofString "seen_along") [.int n, .str (Str.ofString s), iT st, .int p, .int step] = .ok (iT (seenL n s st p step)) := by
  rw [run_is h rfl]
  have key : ev g (run g tab (k + 1)) (.lc (.one 5) (.rng1 (.var 0)) .no (.call (Str.ofString "told_apart") (.cons (.var 1) (.cons (.cnt (.var 2) (.bin .Mod (.bin .Add (.var 3) (.bin .Mult (.var 4) (.var 5))) (.var 0))) .nil)))) (entry d_seen_along [.int n, .str (Str.ofString s), iT st, .int p, .int step])
      = .ok (.list ((rangeD 0 n).map fun x => match x with | .int j => .int (told s (st.count ((p + step * j) % n) : Nat)) | _ => .none)) := by
    refine ev_lc_map _ (xs := rangeD 0 n) ?_ (by rw [range_len]; show n ≤ 1000000; omega) fun x hx => ?_
    · simp [d_seen_along, Q.var, Q.int, Q.neg, Q.str, Q.bl, Q.non, Q.glob, Q.tup, Q.lst, Q.bin, Q.cmp, Q.chain, Q.inG, Q.nt, Q.bop, Q.ite, Q.ix, Q.sl, Q.tl0, Q.rev, Q.disp, Q.call, Q.bi1, Q.mn2, Q.isi, Q.cnt, Q.tupRg, Q.lstRg, Q.lenO, Q.ixO, Q.nil, Q.cons, Q.b1, Q.and2, Q.or2, Q.no, Q.some_, Q.seq, Q.rng1, Q.rng2, Q.enm, Q.s_nil, Q.s_cons, Q.s_set, Q.s_setT, Q.s_newL, Q.s_newD, Q.s_app, Q.s_ext, Q.s_dput, Q.s_expr, Q.s_ret, Q.s_retN, Q.s_ite, Q.s_raise, Q.s_frz, Res.bind, Res.ofO, Out.ofR, retO, entry, slot, truth, small_of (show n ≤ 1000000 by omega)]
    · obtain ⟨j, hj, rfl⟩ := List.mem_map.mp hx
      refine ⟨_, rfl, ?_⟩
      have hm : mulOk step (j : Int) = true := by
        rw [List.mem_range] at hj
        rw [mulOk_iff]
        right
        omega
      simp [d_seen_along, Q.var, Q.int, Q.neg, Q.str, Q.bl, Q.non, Q.glob, Q.tup, Q.lst, Q.bin, Q.cmp, Q.chain, Q.inG, Q.nt, Q.bop, Q.ite, Q.ix, Q.sl, Q.tl0, Q.rev, Q.disp, Q.call, Q.bi1, Q.mn2, Q.isi, Q.cnt, Q.tupRg, Q.lstRg, Q.lenO, Q.ixO, Q.nil, Q.cons, Q.b1, Q.and2, Q.or2, Q.no, Q.some_, Q.seq, Q.rng1, Q.rng2, Q.enm, Q.s_nil, Q.s_cons, Q.s_set, Q.s_setT, Q.s_newL, Q.s_newD, Q.s_app, Q.s_ext, Q.s_dput, Q.s_expr, Q.s_ret, Q.s_retN, Q.s_ite, Q.s_raise, Q.s_frz, Res.bind, Res.ofO, Out.ofR, retO, entry, slot, truth, wipeTg, binD, cntD, intsD_map, hm, hn, told_ok h1]
  have e : (rangeD 0 n).map (fun x => match x with | .int j => PyData.int (told s (st.count ((p + step * j) % n) : Nat)) | _ => .none) = (seenL n s st p step).map .int := by
    unfold rangeD seenL
    rw [List.map_map, List.map_map]
    have z : ((n : Int) - 0).toNat = n := by omega
    rw [z]
    refine List.map_congr_left fun j _ => ?_
    simp
  rw [e] at key
  show retO (Rh.execs g (run g tab (k + 1)) [.ret (.bi1 .tuple _)] _) = _
  rw [Q.s_cons, Q.s_ret, Q.bi1, key]
  rfl
def turned (v : List Int) : List Int := v.take 1 ++ v.tail.reverse
theorem cut_to {xs : List PyData} {j : Nat} : cut xs none (some (j : Int)) = xs.take j := by
  unfold cut
  have e1 : HT.sIx xs.length 0 none = 0 := rfl
  rw [e1, List.drop_zero, HT.sIx_nat, Nat.sub_zero]
  by_cases hj : j ≤ xs.length
  · rw [Nat.min_eq_left hj]
  · rw [Nat.min_eq_right (by omega), List.take_of_length_le (Nat.le_refl _), List.take_of_length_le (by omega)]
theorem turned_ok (h : tab (Str.ofString "turned_view") = some d_turned_view) (v : List Int) (hl : v.length ≤ 1000) : run g tab (k + 1) (Str.ofString "turned_view") [iT v] = .ok (iT (turned v)) := by
  rw [run_is h rfl]
  have e1 : cut (v.map PyData.int) none (some 1) = (v.take 1).map .int := by
    rw [show (1 : Int) = ((1 : Nat) : Int) from rfl, cut_to, List.map_take]
  have e2 : ((v.map PyData.int).tail.reverse) = (v.tail.reverse).map .int := by
    rw [List.map_reverse, List.map_tail]
  have e3 : ev g (run g tab k) (.sl (.var 0) .no (.some (.int 1))) (entry d_turned_view [iT v]) = .ok (.tuple (cut (v.map PyData.int) none (some 1))) := rfl
  have e4 : ev g (run g tab k) (.tl0 (.var 0)) (entry d_turned_view [iT v]) = .ok (.tuple ((v.map PyData.int).tail.reverse)) := rfl
  show retO (Rh.execs g (run g tab k) [.ret (.bin .Add (.sl (.var 0) .no (.some (.int 1))) (.tl0 (.var 0)))] _) = _
  rw [Q.s_cons, Q.s_ret, Q.bin, e3, e4, e1, e2]
  have e5 : binD .Add (.tuple ((v.take 1).map .int)) (.tuple ((v.tail.reverse).map .int)) = some (iT (turned v)) := by
    show (if _ then _ else _) = _
    rw [if_pos, ← List.map_append]
    · rfl
    · simp [lim]
      omega
  show retO (match Out.ofR (Res.ofO (binD .Add _ _)) _ with | .nx δ' => _ | o => o) = _
  rw [e5]
  rfl
/-! ### the lesser of two rows -/
theorem lay_ints : ∀ xs : List Int, PyData.canLayAll0 (xs.map .int) = true
  | [] => by simp [PyData.canLayAll0]
  | x :: r => by
    rw [List.map_cons, PyData.canLayAll0, lay_ints r]
    simp [PyData.canLay0]
theorem dataLt_row (a b : List Int) : PySem.W.dataLt (iT a) (iT b) = decide (a < b) := by
  rw [PySem.W.dataLt_tuple]
  exact PySem.W.dataLt_ints a b
theorem min_row (a b : List Int) : mn2D (iT a) (iT b) = some (iT (if b < a then b else a)) := by
  unfold mn2D
  have h : minable [iT a, iT b] = true := by
    simp [minable, PySem.W.alike, PySem.W.alike_ints, PyData.depth, PySem.W.depth_ints, PyData.canLay0, lim, lay_ints]
  rw [if_pos h]
  simp only [minD, minL, dataLt_row]
  by_cases hj : b < a <;> simp [hj]
theorem view_at_ok (h1 : tab (Str.ofString "told_apart") = some d_told_apart) (h2 : tab (Str.ofString "seen_along") = some d_seen_along) (h3 : tab (Str.ofString "turned_view") = some d_turned_view) (h : tab (Str.ofString "view_at") = some d_view_at)
    (n : Nat) (hn : 0 < n) (hn2 : n ≤ 1000) (s : String) (st : List Int) (p : Int) :
    run g tab (k + 3) (Str.ofString "view_at") [.int n, .str (Str.ofString s), iT st, .int p] = .ok (iT (if turned (seenL n s st p 1) < seenL n s st p 1 then turned (seenL n s st p 1) else seenL n s st p 1)) := by
  rw [run_is h rfl]
  have e1 := seen_ok (g := g) (k := k) h1 h2 n hn hn2 s st p 1
  have e2 := turned_ok (g := g) (k := k + 1) h3 (seenL n s st p 1) (by unfold seenL; rw [List.length_map, List.length_range]; exact hn2)
  show retO (match Out.ofR (run g tab (k + 2) (Str.ofString "seen_along") [.int n, .str (Str.ofString s), iT st, .int p, .int 1]) _ with | .nx δ' => _ | o => o) = _
  rw [e1]
  show retO (match Out.ofR (Res.bind (run g tab (k + 2) (Str.ofString "turned_view") [iT (seenL n s st p 1)]) fun y => Res.ofO (mn2D (iT (seenL n s st p 1)) y)) _ with | .nx δ' => _ | o => o) = _
  rw [e2]
  show retO (match Out.ofR (Res.ofO (mn2D _ _)) _ with | .nx δ' => _ | o => o) = _
  rw [min_row]
  rfl
/-! ### all stands -/
def exts (n : Nat) (st : List Int) : List (List Int) := (List.range n).map fun (p : Nat) => st ++ [(p : Int)]
def allSt (n : Nat) : Nat → List (List Int)
  | 0 => [[]]
  | m + 1 => (allSt n m).flatMap (exts n)
theorem exts_len (n : Nat) (st : List Int) : (exts n st).length = n := by
  unfold exts
  rw [List.length_map, List.length_range]
theorem flat_len (n : Nat) : ∀ L : List (List Int), (L.flatMap (exts n)).length = L.length * n
  | [] => by simp
  | x :: r => by
    rw [List.flatMap_cons, List.length_append, exts_len, flat_len n r, List.length_cons, Nat.succ_mul]
    omega
theorem comp_ext {f : Str → List PyData → Res PyData} (n : Nat) (hn : n ≤ 1000) (st : List Int) (hst : st.length ≤ 1000) (a o : Option Sl) :
    ev g f (.lc (.one 4) (.rng1 (.var 1)) .no (.bin .Add (.var 3) (.tup (.cons (.var 4) .nil)))) [a, some (.sh (.int n)), o, some (.sh (iT st)), none] = .ok (.list ((exts n st).map iT)) := by
  have e : (exts n st).map iT = (rangeD 0 n).map fun x => match x with | .int j => iT (st ++ [j]) | _ => .none := by
    unfold exts rangeD
    rw [List.map_map, List.map_map]
    have z : ((n : Int) - 0).toNat = n := by omega
    rw [z]
    refine List.map_congr_left fun j _ => ?_
    simp
  rw [e]
  refine ev_lc_map _ (xs := rangeD 0 n) ?_ (by rw [range_len]; show n ≤ 1000000; omega) fun x hx => ?_
  · show (if small n = true then _ else _) = _
    rw [if_pos (small_of (by omega))]
  · obtain ⟨j, hj, rfl⟩ := List.mem_map.mp hx
    refine ⟨_, rfl, ?_⟩
    show Res.ofO (if (st.map PyData.int).length + 1 ≤ lim then some (PyData.tuple (st.map PyData.int ++ [.int (0 + (j : Int))])) else none) = _
    rw [if_pos (by rw [List.length_map]; show _ ≤ 1000000; omega)]
    simp [Res.ofO]
theorem long_loop {f : Str → List PyData → Res PyData} (n : Nat) (hn : n ≤ 1000) (a : Option Sl) : ∀ (L : List (List Int)) (acc : List PyData) (o : Option Sl), (∀ st ∈ L, st.length ≤ 1000) → acc.length + L.length * n ≤ lim →
    ∃ o', forL (Rh.execs g f [.ext 2 (.lc (.one 4) (.rng1 (.var 1)) .no (.bin .Add (.var 3) (.tup (.cons (.var 4) .nil))))]) (.one 3) (L.map iT) [a, some (.sh (.int n)), some (.own (.list acc)), o, none] =
      .nx [a, some (.sh (.int n)), some (.own (.list (acc ++ (L.flatMap (exts n)).map iT))), o', none]
  | [], acc, o, _, _ => ⟨o, by simp [forL]⟩
  | st :: L, acc, o, hL, hl => by
    have e1 := comp_ext (g := g) (f := f) n hn st (hL st List.mem_cons_self) a (some (.own (.list acc)))
    rw [List.length_cons, Nat.succ_mul] at hl
    have hl2 : acc.length + ((exts n st).map iT).length ≤ lim := by
      rw [List.length_map, exts_len]
      omega
    obtain ⟨o', ih⟩ := long_loop n hn a L (acc ++ (exts n st).map iT) (some (.sh (iT st))) (fun s hs => hL s (List.mem_cons_of_mem _ hs)) (by rw [List.length_append, List.length_map, exts_len]; omega)
    refine ⟨o', ?_⟩
    rw [List.flatMap_cons, List.map_append, ← List.append_assoc, ← ih]
    show (match (match (Out.ofR (ev g f _ [a, some (.sh (.int n)), some (.own (.list acc)), some (.sh (iT st)), none]) _) with | .nx δ' => _ | o => o) with | .nx δ2 => _ | .ct δ2 => _ | .bk δ2 => _ | o => o) = _
    rw [e1]
    show (match (match (if acc.length + ((exts n st).map iT).length ≤ lim then _ else Out.stuck) with | .nx δ' => _ | o => o) with | .nx δ2 => _ | .ct δ2 => _ | .bk δ2 => _ | o => o) = _
    rw [if_pos hl2]
    rfl
theorem longer_ok (h : tab (Str.ofString "longer") = some d_longer) (n : Nat) (hn : n ≤ 1000) (L : List (List Int)) (hL : ∀ st ∈ L, st.length ≤ 1000) (hl : L.length * n ≤ lim) :
    run g tab (k + 1) (Str.ofString "longer") [.list (L.map iT), .int n] = .ok (.list ((L.flatMap (exts n)).map iT)) := by
  rw [run_is h rfl]
  obtain ⟨o', e⟩ := long_loop (g := g) (f := run g tab k) n hn (some (.sh (.list (L.map iT)))) L [] none hL (by simpa using hl)
  show retO (match forL (Rh.execs g (run g tab k) _) (.one 3) (L.map iT) [some (.sh (.list (L.map iT))), some (.sh (.int n)), some (.own (.list [])), none, none] with | .nx δ' => _ | o => o) = _
  rw [e]
  simp
  rfl
end
end Rh

set_option Elab.async false
set_option linter.all false
set_option maxRecDepth 100000
set_option maxHeartbeats 1000000
/-! What the core code computes: stands, rows, views. -/
namespace Rh
open PySem (PyData Str)
open Cd
section
variable {g : Str → Option PyData} {tab : Str → Option Df} {k : Nat}
theorem all_len (n : Nat) : ∀ m, (allSt n m).length = n ^ m
  | 0 => rfl
  | m + 1 => by
    rw [allSt, flat_len, all_len n m, Nat.pow_succ]
theorem all_mem (n : Nat) : ∀ (m : Nat) (st : List Int), st ∈ allSt n m ↔ (st.length = m ∧ ∀ p ∈ st, 0 ≤ p ∧ p < n)
  | 0, st => by
    constructor
    · intro h
      have e : st = [] := by simpa [allSt] using h
      subst e
      exact ⟨rfl, fun p hp => by cases hp⟩
    · rintro ⟨h, _⟩
      have e : st = [] := List.eq_nil_of_length_eq_zero h
      subst e
      simp [allSt]
  | m + 1, st => by
    rw [allSt, List.mem_flatMap]
    constructor
    · rintro ⟨a, h1, h2⟩
      obtain ⟨h3, h4⟩ := (all_mem n m a).mp h1
      obtain ⟨p, hp, rfl⟩ := List.mem_map.mp h2
      rw [List.mem_range] at hp
      refine ⟨by rw [List.length_append, h3]; rfl, fun q hq => ?_⟩
      rcases List.mem_append.mp hq with z | z
      · exact h4 q z
      · rw [List.mem_singleton.mp z]
        omega
    · rintro ⟨h1, h2⟩
      have hne : st ≠ [] := fun z => by
        rw [z] at h1
        cases h1
      refine ⟨st.dropLast, (all_mem n m _).mpr ⟨by rw [List.length_dropLast, h1]; rfl, fun p hp => h2 p (List.dropLast_subset st hp)⟩, ?_⟩
      have hl := h2 (st.getLast hne) (List.getLast_mem hne)
      refine List.mem_map.mpr ⟨(st.getLast hne).toNat, List.mem_range.mpr (by omega), ?_⟩
      rw [show (((st.getLast hne).toNat : Nat) : Int) = st.getLast hne by omega]
      exact List.dropLast_concat_getLast hne
theorem pow_le {n m : Nat} (hn : n ≤ 7) (hm : m ≤ 4) : n ^ m ≤ 2401 := by
  have h1 : n ^ m ≤ 7 ^ m := Nat.pow_le_pow_left hn m
  have h2 : 7 ^ m ≤ 7 ^ 4 := Nat.pow_le_pow_right (by decide) hm
  have h3 : (7 : Nat) ^ 4 = 2401 := by decide
  omega
theorem longer_all (h : tab (Str.ofString "longer") = some d_longer) (n : Nat) (hn : n ≤ 7) (m : Nat) (hm : m < 4) : run g tab (k + 1) (Str.ofString "longer") [.list ((allSt n m).map iT), .int n] = .ok (.list ((allSt n (m + 1)).map iT)) := by
  refine longer_ok h n (by omega) _ (fun st hst => ?_) ?_
  · rw [((all_mem n m st).mp hst).1]
    omega
  · rw [all_len, ← Nat.pow_succ]
    have z : n ^ (m + 1) ≤ 2401 := pow_le hn (show m + 1 ≤ 4 by omega)
    show n ^ (m + 1) ≤ 1000000
    omega
theorem all_loop (h : tab (Str.ofString "longer") = some d_longer) (n : Nat) (hn : n ≤ 7) (b : Option Sl) : ∀ (xs : List PyData) (m : Nat) (o : Option Sl), m + xs.length ≤ 4 →
    ∃ o', forL (Rh.execs g (run g tab (k + 1)) [.set 2 (.call (Str.ofString "longer") (.cons (.var 2) (.cons (.var 0) .nil)))]) (.one 3) xs [some (.sh (.int n)), b, some (.sh (.list ((allSt n m).map iT))), o] =
      .nx [some (.sh (.int n)), b, some (.sh (.list ((allSt n (m + xs.length)).map iT))), o']
  | [], m, o, _ => ⟨o, rfl⟩
  | x :: xs, m, o, hm => by
    rw [List.length_cons] at hm
    obtain ⟨o', ih⟩ := all_loop h n hn b xs (m + 1) (some (.sh x)) (by omega)
    refine ⟨o', ?_⟩
    have e : m + (x :: xs).length = m + 1 + xs.length := by
      rw [List.length_cons]
      omega
    rw [e, ← ih]
    show (match (match Out.ofR (run g tab (k + 1) (Str.ofString "longer") [.list ((allSt n m).map iT), .int n]) _ with | .nx δ' => _ | o => o) with | .nx δ2 => _ | .ct δ2 => _ | .bk δ2 => _ | o => o) = _
    rw [longer_all h n hn m (by omega)]
    rfl
theorem all_stands_ok (h1 : tab (Str.ofString "longer") = some d_longer) (h : tab (Str.ofString "all_stands") = some d_all_stands) (n m : Nat) (hn : n ≤ 7) (hm : m ≤ 4) :
    run g tab (k + 2) (Str.ofString "all_stands") [.int n, .int m] = .ok (.list ((allSt n m).map iT)) := by
  rw [run_is h rfl]
  obtain ⟨o', e⟩ := all_loop (g := g) (k := k) h1 n hn (some (.sh (.int m))) (rangeD 0 m) 0 none (by rw [range_len]; omega)
  show retO (match Out.ofR (if small m = true then Res.ok (rangeD 0 m) else .stuck) _ with | .nx δ' => _ | o => o) = _
  rw [if_pos (small_of (by omega))]
  show retO (match forL _ (.one 3) (rangeD 0 m) [some (.sh (.int n)), some (.sh (.int m)), some (.sh (.list ((allSt n 0).map iT))), none] with | .nx δ' => _ | o => o) = _
  rw [e, range_len, Nat.zero_add]
  rfl
/-! ### the law's own stands -/
theorem comp_ext2 {f : Str → List PyData → Res PyData} (n : Nat) (hn : n ≤ 1000) (st : List Int) (hst : st.length ≤ 1000) (a b c d : Option Sl) :
    ev g f (.lc (.one 6) (.rng1 (.var 0)) .no (.bin .Add (.var 5) (.tup (.cons (.var 6) .nil)))) [some (.sh (.int n)), a, b, c, d, some (.sh (iT st)), none] = .ok (.list ((exts n st).map iT)) := by
  have e : (exts n st).map iT = (rangeD 0 n).map fun x => match x with | .int j => iT (st ++ [j]) | _ => .none := by
    unfold exts rangeD
    rw [List.map_map, List.map_map]
    have z : ((n : Int) - 0).toNat = n := by omega
    rw [z]
    refine List.map_congr_left fun j _ => ?_
    simp
  rw [e]
  refine ev_lc_map _ (xs := rangeD 0 n) ?_ (by rw [range_len]; show n ≤ 1000000; omega) fun x hx => ?_
  · show (if small n = true then _ else _) = _
    rw [if_pos (small_of (by omega))]
  · obtain ⟨j, hj, rfl⟩ := List.mem_map.mp hx
    refine ⟨_, rfl, ?_⟩
    show Res.ofO (if (st.map PyData.int).length + 1 ≤ lim then some (PyData.tuple (st.map PyData.int ++ [.int (0 + (j : Int))])) else none) = _
    rw [if_pos (by rw [List.length_map]; show _ ≤ 1000000; omega)]
    simp [Res.ofO]
theorem lawst_in {f : Str → List PyData → Res PyData} (n : Nat) (hn : n ≤ 1000) (a b c : Option Sl) : ∀ (L : List (List Int)) (acc : List PyData) (o : Option Sl), (∀ st ∈ L, st.length ≤ 1000) → acc.length + L.length * n ≤ lim →
    ∃ o', forL (Rh.execs g f [.set 4 (.bin .Add (.var 4) (.lc (.one 6) (.rng1 (.var 0)) .no (.bin .Add (.var 5) (.tup (.cons (.var 6) .nil)))))]) (.one 5) (L.map iT) [some (.sh (.int n)), a, b, c, some (.sh (.list acc)), o, none] =
      .nx [some (.sh (.int n)), a, b, c, some (.sh (.list (acc ++ (L.flatMap (exts n)).map iT))), o', none]
  | [], acc, o, _, _ => ⟨o, by simp [forL]⟩
  | st :: L, acc, o, hL, hl => by
    have e1 := comp_ext2 (g := g) (f := f) n hn st (hL st List.mem_cons_self) a b c (some (.sh (.list acc)))
    rw [List.length_cons, Nat.succ_mul] at hl
    have hl2 : acc.length + ((exts n st).map iT).length ≤ lim := by
      rw [List.length_map, exts_len]
      omega
    obtain ⟨o', ih⟩ := lawst_in n hn a b c L (acc ++ (exts n st).map iT) (some (.sh (iT st))) (fun s hs => hL s (List.mem_cons_of_mem _ hs)) (by rw [List.length_append, List.length_map, exts_len]; omega)
    refine ⟨o', ?_⟩
    rw [List.flatMap_cons, List.map_append, ← List.append_assoc, ← ih]
    show (match (match (Out.ofR (Res.bind (ev g f _ [some (.sh (.int n)), a, b, c, some (.sh (.list acc)), some (.sh (iT st)), none]) fun y => .ofO (binD .Add (.list acc) y)) _) with | .nx δ' => _ | o => o) with | .nx δ2 => _ | .ct δ2 => _ | .bk δ2 => _ | o => o) = _
    rw [e1]
    show (match (match (Out.ofR (Res.ofO (if acc.length + ((exts n st).map iT).length ≤ lim then _ else none)) _) with | .nx δ' => _ | o => o) with | .nx δ2 => _ | .ct δ2 => _ | .bk δ2 => _ | o => o) = _
    rw [if_pos hl2]
    rfl
theorem lawst_out {f : Str → List PyData → Res PyData} (n : Nat) (hn : n ≤ 7) (a : Option Sl) : ∀ (xs : List PyData) (m : Nat) (o o2 o3 : Option Sl), m + xs.length ≤ 4 →
    ∃ p p2 p3, forL (Rh.execs g f [.set 4 (.lst .nil), .for (.one 5) (.seq (.var 2)) [.set 4 (.bin .Add (.var 4) (.lc (.one 6) (.rng1 (.var 0)) .no (.bin .Add (.var 5) (.tup (.cons (.var 6) .nil)))))], .set 2 (.var 4)]) (.one 3) xs
        [some (.sh (.int n)), a, some (.sh (.list ((allSt n m).map iT))), o, o2, o3, none] =
      .nx [some (.sh (.int n)), a, some (.sh (.list ((allSt n (m + xs.length)).map iT))), p, p2, p3, none]
  | [], m, o, o2, o3, _ => ⟨o, o2, o3, rfl⟩
  | x :: xs, m, o, o2, o3, hm => by
    rw [List.length_cons] at hm
    have hb : ([] : List PyData).length + (allSt n m).length * n ≤ lim := by
      rw [all_len, ← Nat.pow_succ, List.length_nil]
      have z : n ^ (m + 1) ≤ 2401 := pow_le hn (show m + 1 ≤ 4 by omega)
      show 0 + n ^ (m + 1) ≤ 1000000
      omega
    obtain ⟨q, e⟩ := lawst_in (g := g) (f := f) n (by omega) a (some (.sh (.list ((allSt n m).map iT)))) (some (.sh x)) (allSt n m) [] o3 (fun st hst => by rw [((all_mem n m st).mp hst).1]; omega) hb
    obtain ⟨p, p2, p3, ih⟩ := lawst_out n hn a xs (m + 1) (some (.sh x)) (some (.sh (.list ((allSt n (m + 1)).map iT)))) q (by omega)
    refine ⟨p, p2, p3, ?_⟩
    have e2 : m + (x :: xs).length = m + 1 + xs.length := by
      rw [List.length_cons]
      omega
    rw [e2, ← ih]
    show (match (match forL _ (.one 5) ((allSt n m).map iT) [some (.sh (.int n)), a, some (.sh (.list ((allSt n m).map iT))), some (.sh x), some (.sh (.list [])), o3, none] with | .nx δ' => _ | o => o) with | .nx δ2 => _ | .ct δ2 => _ | .bk δ2 => _ | o => o) = _
    rw [e]
    rfl
theorem law_stands_ok (h : tab (Str.ofString "_law_stands") = some d_law_stands) (n m : Nat) (hn : n ≤ 7) (hm : m ≤ 4) :
    run g tab (k + 1) (Str.ofString "_law_stands") [.int n, .int m] = .ok (.list ((allSt n m).map iT)) := by
  rw [run_is h rfl]
  obtain ⟨p, p2, p3, e⟩ := lawst_out (g := g) (f := run g tab k) n hn (some (.sh (.int m))) (rangeD 0 m) 0 none none none (by rw [range_len]; omega)
  show retO (match Out.ofR (if small m = true then Res.ok (rangeD 0 m) else .stuck) _ with | .nx δ' => _ | o => o) = _
  rw [if_pos (small_of (by omega))]
  show retO (match forL _ (.one 3) (rangeD 0 m) [some (.sh (.int n)), some (.sh (.int m)), some (.sh (.list ((allSt n 0).map iT))), none, none, none, none] with | .nx δ' => _ | o => o) = _
  rw [e, range_len, Nat.zero_add]
  rfl
end
end Rh

set_option Elab.async false
set_option linter.all false
set_option maxRecDepth 100000
set_option maxHeartbeats 1000000
/-! What the core code computes: the law's rows and views. -/
namespace Rh
open PySem (PyData Str)
open Cd
section
variable {g : Str → Option PyData} {tab : Str → Option Df} {k : Nat}
theorem eq_str (a b : String) : eqD (.str (Str.ofString a)) (.str (Str.ofString b)) = some (decide (a = b)) := by
  unfold eqD
  rw [shaped_str, shaped_str]
  simp [PyData.eqv, str_beq]
theorem shaped_int (a : Int) : PySem.SeqAt.shaped (.int a) = true := by simp [PySem.SeqAt.shaped, PyData.canLay0, PyData.depth]
theorem eq_int (a b : Int) : eqD (.int a) (.int b) = some (decide (a = b)) := by
  unfold eqD
  rw [shaped_int, shaped_int]
  simp [PyData.eqv]
  rw [Bool.eq_iff_iff]
  simp
/-- how many stand there, as a comprehension -/
theorem row_comp {f : Str → List PyData → Res PyData} (n : Nat) (hn : 0 < n) (st : List Int) (hst : st.length ≤ 1000) (p w j : Int) (hm : mulOk w j = true) (a b c : Option Sl) :
    ev g f (.lc (.one 8) (.seq (.var 2)) (.some (.cmp .Eq (.var 8) (.bin .Mod (.bin .Add (.var 3) (.bin .Mult (.var 4) (.var 6))) (.var 0)))) (.var 8)) [some (.sh (.int n)), a, some (.sh (iT st)), some (.sh (.int p)), some (.sh (.int w)), b, some (.sh (.int j)), c, none]
      = .ok (.list ((st.filter fun x => decide (x = (p + w * j) % n)).map .int)) := by
  have e : (st.filter fun x => decide (x = (p + w * j) % n)).map PyData.int = ((st.map PyData.int).filter fun x => match x with | .int i => decide (i = (p + w * j) % n) | _ => false).map id := by
    rw [List.map_id, List.filter_map]
    rfl
  rw [e]
  refine ev_lc_filter _ _ (xs := st.map .int) rfl (by rw [List.length_map]; show _ ≤ 1000000; omega) fun x hx => ?_
  obtain ⟨i, hi, rfl⟩ := List.mem_map.mp hx
  refine ⟨_, .bool (decide (i = (p + w * j) % n)), rfl, ?_, rfl, fun _ => rfl⟩
  have e1 : binD .Mult (.int w) (.int j) = some (.int (w * j)) := by
    show (if _ then _ else _) = _
    rw [if_pos hm]
  have e2 : binD .Mod (.int (p + w * j)) (.int n) = some (.int ((p + w * j) % n)) := by
    show (if _ then _ else _) = _
    rw [if_pos (by omega)]
  show Res.bind (Res.bind (Res.bind (Res.ofO (binD .Mult (.int w) (.int j))) fun y => Res.ofO (binD .Add (.int p) y)) fun x => Res.ofO (binD .Mod x (.int n))) (fun y => Res.ofO ((cmpD .Eq (.int i) y).map PyData.bool)) = _
  rw [e1]
  show Res.bind (Res.ofO (binD .Mod (.int (p + w * j)) (.int n))) _ = _
  rw [e2]
  show Res.ofO ((eqD (.int i) (.int ((p + w * j) % n))).map PyData.bool) = _
  rw [eq_int]
  rfl
theorem filter_count (st : List Int) (c : Int) : ((st.filter fun x => decide (x = c)).map PyData.int).length = st.count c := by
  rw [List.length_map, List.count_eq_countP, List.countP_eq_length_filter]
  rfl
def sights : List String := ["all", "many", "some"]
abbrev rowBody : List DS := [.set 7 (.bi1 .len (.lc (.one 8) (.seq (.var 2)) (.some (.cmp .Eq (.var 8) (.bin .Mod (.bin .Add (.var 3) (.bin .Mult (.var 4) (.var 6))) (.var 0)))) (.var 8))), .ite (.bop .And (.cons (.cmp .Eq (.var 1) (.str (Str.ofString "many"))) (.cons (.cmp .Gt (.var 7) (.int 2)) .nil))) [.set 7 (.int 2)] [], .ite (.bop .And (.cons (.cmp .Eq (.var 1) (.str (Str.ofString "some"))) (.cons (.cmp .Gt (.var 7) (.int 1)) .nil))) [.set 7 (.int 1)] [], .app 5 (.var 7)]
theorem row_body {f : Str → List PyData → Res PyData} (n : Nat) (hn : 0 < n) (s : String) (hs : s ∈ sights) (st : List Int) (hst : st.length ≤ 1000) (p w j : Int) (hm : mulOk w j = true) (acc : List PyData) (ha : acc.length < lim) (c : Option Sl) :
    Rh.execs g f rowBody [some (.sh (.int n)), some (.sh (.str (Str.ofString s))), some (.sh (iT st)), some (.sh (.int p)), some (.sh (.int w)), some (.own (.list acc)), some (.sh (.int j)), c, none]
      = .nx [some (.sh (.int n)), some (.sh (.str (Str.ofString s))), some (.sh (iT st)), some (.sh (.int p)), some (.sh (.int w)), some (.own (.list (acc ++ [.int (told s (st.count ((p + w * j) % n) : Nat))]))), some (.sh (.int j)), some (.sh (.int (told s (st.count ((p + w * j) % n) : Nat)))), none] := by
  have e1 := row_comp (g := g) (f := f) n hn st hst p w j hm (some (.sh (.str (Str.ofString s)))) (some (.own (.list acc))) c
  show (match Out.ofR (Res.bind (ev g f _ _) fun x => Res.ofO (bi1D .len x)) _ with | .nx δ' => _ | o => o) = _
  rw [e1]
  show Rh.execs g f rowBody.tail [some (.sh (.int n)), some (.sh (.str (Str.ofString s))), some (.sh (iT st)), some (.sh (.int p)), some (.sh (.int w)), some (.own (.list acc)), some (.sh (.int j)), some (.sh (.int ((st.filter fun x => decide (x = (p + w * j) % n)).map PyData.int).length)), none] = _
  rw [filter_count]
  generalize st.count ((p + w * j) % n) = q
  simp only [sights, List.mem_cons, List.not_mem_nil, or_false] at hs
  rcases hs with rfl | rfl | rfl
  · simp [rowBody, Q.var, Q.int, Q.neg, Q.str, Q.bl, Q.non, Q.glob, Q.tup, Q.lst, Q.bin, Q.cmp, Q.chain, Q.inG, Q.nt, Q.bop, Q.ite, Q.ix, Q.sl, Q.tl0, Q.rev, Q.disp, Q.call, Q.bi1, Q.mn2, Q.isi, Q.cnt, Q.tupRg, Q.lstRg, Q.lenO, Q.ixO, Q.nil, Q.cons, Q.b1, Q.and2, Q.or2, Q.no, Q.some_, Q.seq, Q.rng1, Q.rng2, Q.enm, Q.s_nil, Q.s_cons, Q.s_set, Q.s_setT, Q.s_newL, Q.s_newD, Q.s_app, Q.s_ext, Q.s_dput, Q.s_expr, Q.s_ret, Q.s_retN, Q.s_ite, Q.s_raise, Q.s_frz, Res.bind, Res.ofO, Out.ofR, retO, entry, slot, truth, cmpD, eq_str, told, ha]
  · by_cases h2 : (2 : Int) < q
    · simp [rowBody, Q.var, Q.int, Q.neg, Q.str, Q.bl, Q.non, Q.glob, Q.tup, Q.lst, Q.bin, Q.cmp, Q.chain, Q.inG, Q.nt, Q.bop, Q.ite, Q.ix, Q.sl, Q.tl0, Q.rev, Q.disp, Q.call, Q.bi1, Q.mn2, Q.isi, Q.cnt, Q.tupRg, Q.lstRg, Q.lenO, Q.ixO, Q.nil, Q.cons, Q.b1, Q.and2, Q.or2, Q.no, Q.some_, Q.seq, Q.rng1, Q.rng2, Q.enm, Q.s_nil, Q.s_cons, Q.s_set, Q.s_setT, Q.s_newL, Q.s_newD, Q.s_app, Q.s_ext, Q.s_dput, Q.s_expr, Q.s_ret, Q.s_retN, Q.s_ite, Q.s_raise, Q.s_frz, Res.bind, Res.ofO, Out.ofR, retO, entry, slot, truth, cmpD, eq_str, told, ha, h2]
    · simp [rowBody, Q.var, Q.int, Q.neg, Q.str, Q.bl, Q.non, Q.glob, Q.tup, Q.lst, Q.bin, Q.cmp, Q.chain, Q.inG, Q.nt, Q.bop, Q.ite, Q.ix, Q.sl, Q.tl0, Q.rev, Q.disp, Q.call, Q.bi1, Q.mn2, Q.isi, Q.cnt, Q.tupRg, Q.lstRg, Q.lenO, Q.ixO, Q.nil, Q.cons, Q.b1, Q.and2, Q.or2, Q.no, Q.some_, Q.seq, Q.rng1, Q.rng2, Q.enm, Q.s_nil, Q.s_cons, Q.s_set, Q.s_setT, Q.s_newL, Q.s_newD, Q.s_app, Q.s_ext, Q.s_dput, Q.s_expr, Q.s_ret, Q.s_retN, Q.s_ite, Q.s_raise, Q.s_frz, Res.bind, Res.ofO, Out.ofR, retO, entry, slot, truth, cmpD, eq_str, told, ha, h2]
  · by_cases h2 : (1 : Int) < q
    · simp [rowBody, Q.var, Q.int, Q.neg, Q.str, Q.bl, Q.non, Q.glob, Q.tup, Q.lst, Q.bin, Q.cmp, Q.chain, Q.inG, Q.nt, Q.bop, Q.ite, Q.ix, Q.sl, Q.tl0, Q.rev, Q.disp, Q.call, Q.bi1, Q.mn2, Q.isi, Q.cnt, Q.tupRg, Q.lstRg, Q.lenO, Q.ixO, Q.nil, Q.cons, Q.b1, Q.and2, Q.or2, Q.no, Q.some_, Q.seq, Q.rng1, Q.rng2, Q.enm, Q.s_nil, Q.s_cons, Q.s_set, Q.s_setT, Q.s_newL, Q.s_newD, Q.s_app, Q.s_ext, Q.s_dput, Q.s_expr, Q.s_ret, Q.s_retN, Q.s_ite, Q.s_raise, Q.s_frz, Res.bind, Res.ofO, Out.ofR, retO, entry, slot, truth, cmpD, eq_str, told, ha, h2]
    · simp [rowBody, Q.var, Q.int, Q.neg, Q.str, Q.bl, Q.non, Q.glob, Q.tup, Q.lst, Q.bin, Q.cmp, Q.chain, Q.inG, Q.nt, Q.bop, Q.ite, Q.ix, Q.sl, Q.tl0, Q.rev, Q.disp, Q.call, Q.bi1, Q.mn2, Q.isi, Q.cnt, Q.tupRg, Q.lstRg, Q.lenO, Q.ixO, Q.nil, Q.cons, Q.b1, Q.and2, Q.or2, Q.no, Q.some_, Q.seq, Q.rng1, Q.rng2, Q.enm, Q.s_nil, Q.s_cons, Q.s_set, Q.s_setT, Q.s_newL, Q.s_newD, Q.s_app, Q.s_ext, Q.s_dput, Q.s_expr, Q.s_ret, Q.s_retN, Q.s_ite, Q.s_raise, Q.s_frz, Res.bind, Res.ofO, Out.ofR, retO, entry, slot, truth, cmpD, eq_str, told, ha, h2]
theorem row_loop {f : Str → List PyData → Res PyData} (n : Nat) (hn : 0 < n) (s : String) (hs : s ∈ sights) (st : List Int) (hst : st.length ≤ 1000) (p w : Int) : ∀ (js : List Int) (acc : List PyData) (o c : Option Sl), (∀ j ∈ js, mulOk w j = true) → acc.length + js.length ≤ lim →
    ∃ o' c', forL (Rh.execs g f rowBody) (.one 6) (js.map .int) [some (.sh (.int n)), some (.sh (.str (Str.ofString s))), some (.sh (iT st)), some (.sh (.int p)), some (.sh (.int w)), some (.own (.list acc)), o, c, none]
      = .nx [some (.sh (.int n)), some (.sh (.str (Str.ofString s))), some (.sh (iT st)), some (.sh (.int p)), some (.sh (.int w)), some (.own (.list (acc ++ js.map fun j => .int (told s (st.count ((p + w * j) % n) : Nat))))), o', c', none]
  | [], acc, o, c, _, _ => ⟨o, c, by simp [forL]⟩
  | j :: js, acc, o, c, hm, hl => by
    rw [List.length_cons] at hl
    obtain ⟨o', c', ih⟩ := row_loop (f := f) n hn s hs st hst p w js (acc ++ [.int (told s (st.count ((p + w * j) % n) : Nat))]) (some (.sh (.int j))) (some (.sh (.int (told s (st.count ((p + w * j) % n) : Nat))))) (fun j hj => hm j (List.mem_cons_of_mem _ hj)) (by rw [List.length_append, List.length_singleton]; omega)
    refine ⟨o', c', ?_⟩
    rw [List.map_cons (f := fun j => PyData.int (told s (st.count ((p + w * j) % n) : Nat))), List.append_cons, ← ih]
    show (match Rh.execs g f rowBody [some (.sh (.int n)), some (.sh (.str (Str.ofString s))), some (.sh (iT st)), some (.sh (.int p)), some (.sh (.int w)), some (.own (.list acc)), some (.sh (.int j)), c, none] with | .nx δ2 => _ | .ct δ2 => _ | .bk δ2 => _ | o => o) = _
    rw [row_body n hn s hs st hst p w j (hm j List.mem_cons_self) acc (by omega) c]
theorem law_row_ok (h : tab (Str.ofString "_law_row") = some d_law_row) (n : Nat) (hn : 0 < n) (hn2 : n ≤ 1000) (s : String) (hs : s ∈ sights) (st : List Int) (hst : st.length ≤ 1000) (p w : Int) :
    run g tab (k + 1) (Str.ofString "_law_row") [.int n, .str (Str.ofString s), iT st, .int p, .int w] = .ok (iT (seenL n s st p w)) := by
  rw [run_is h rfl]
  have er : rangeD 0 n = ((List.range n).map fun (j : Nat) => (j : Int)).map .int := by
    unfold rangeD
    rw [List.map_map]
    have z : ((n : Int) - 0).toNat = n := by omega
    rw [z]
    refine List.map_congr_left fun j _ => ?_
    simp
  obtain ⟨o', c', e⟩ := row_loop (g := g) (f := run g tab k) n hn s hs st hst p w ((List.range n).map fun (j : Nat) => (j : Int)) [] none none (fun j hj => by
    obtain ⟨i, hi, rfl⟩ := List.mem_map.mp hj
    rw [List.mem_range] at hi
    rw [mulOk_iff]
    right
    omega) (by rw [List.length_map, List.length_range]; show 0 + n ≤ 1000000; omega)
  show retO (match Out.ofR (if small n = true then Res.ok (rangeD 0 n) else .stuck) _ with | .nx δ' => _ | o => o) = _
  rw [if_pos (small_of (by omega)), er]
  show retO (match forL (Rh.execs g (run g tab k) rowBody) (.one 6) _ [some (.sh (.int n)), some (.sh (.str (Str.ofString s))), some (.sh (iT st)), some (.sh (.int p)), some (.sh (.int w)), some (.own (.list [])), none, none, none] with | .nx δ' => _ | o => o) = _
  rw [e]
  have e2 : [] ++ ((List.range n).map fun (j : Nat) => (j : Int)).map (fun j => PyData.int (told s (st.count ((p + w * j) % n) : Nat))) = (seenL n s st p w).map .int := by
    unfold seenL
    rw [List.nil_append, List.map_map, List.map_map]
    rfl
  rw [e2]
  rfl
/-! ### the other way round -/
theorem seenL_len (n : Nat) (s : String) (st : List Int) (p w : Int) : (seenL n s st p w).length = n := by
  unfold seenL
  rw [List.length_map, List.length_range]
theorem seen_get (n : Nat) (s : String) (st : List Int) (p w : Int) (i : Nat) (h : i < n) : (seenL n s st p w)[i]? = some (told s (st.count ((p + w * (i : Int)) % n) : Nat)) := by
  unfold seenL
  rw [List.getElem?_map, List.getElem?_range h]
  rfl
theorem turned_get {v : List Int} {i : Nat} (h : i + 1 < v.length) : (turned v)[i + 1]? = v[v.length - 1 - i]? := by
  cases v with
  | nil => cases h
  | cons a r =>
    rw [List.length_cons] at h
    show (a :: r.reverse)[i + 1]? = _
    rw [List.getElem?_cons_succ, List.getElem?_reverse (by omega), List.length_cons]
    have e : r.length + 1 - 1 - i = (r.length - 1 - i) + 1 := by omega
    rw [e, List.getElem?_cons_succ]
theorem turned_len (v : List Int) : (turned v).length = v.length := by
  cases v with
  | nil => rfl
  | cons a r =>
    show (a :: r.reverse).length = _
    rw [List.length_cons, List.length_reverse, List.length_cons]
theorem turned_head (v : List Int) : (turned v)[0]? = v[0]? := by
  cases v with
  | nil => rfl
  | cons a r => rfl
theorem seen_back (n : Nat) (hn : 0 < n) (s : String) (st : List Int) (p : Int) : seenL n s st p (-1) = turned (seenL n s st p 1) := by
  apply List.ext_getElem?
  intro i
  by_cases h1 : i < n
  · cases i with
    | zero =>
      rw [turned_head, seen_get n s st p _ 0 h1, seen_get n s st p _ 0 h1]
      simp
    | succ i =>
      rw [turned_get (by rw [seenL_len]; exact h1), seenL_len, seen_get n s st p _ _ h1, seen_get n s st p _ _ (by omega)]
      have e2 : ((p + -1 * ((i + 1 : Nat) : Int)) % n) = ((p + 1 * ((n - 1 - i : Nat) : Int)) % n) := by
        have z2 : ((n - 1 - i : Nat) : Int) = (n : Int) - (i + 1 : Nat) := by omega
        rw [z2, show p + 1 * ((n : Int) - ((i + 1 : Nat) : Int)) = (p + -1 * ((i + 1 : Nat) : Int)) + n by omega, Int.add_emod_right]
      rw [e2]
  · rw [List.getElem?_eq_none (by rw [seenL_len]; omega), List.getElem?_eq_none (by rw [turned_len, seenL_len]; omega)]
/-- the view, the lesser of the two rows -/
def viewL (n : Nat) (s : String) (st : List Int) (p : Int) : List Int := if turned (seenL n s st p 1) < seenL n s st p 1 then turned (seenL n s st p 1) else seenL n s st p 1
theorem law_view_ok (h1 : tab (Str.ofString "_law_row") = some d_law_row) (h : tab (Str.ofString "_law_view") = some d_law_view) (n : Nat) (hn : 0 < n) (hn2 : n ≤ 1000) (s : String) (hs : s ∈ sights) (st : List Int) (hst : st.length ≤ 1000) (p : Int) :
    run g tab (k + 2) (Str.ofString "_law_view") [.int n, .str (Str.ofString s), iT st, .int p] = .ok (iT (viewL n s st p)) := by
  rw [run_is h rfl]
  have e1 := law_row_ok (g := g) (k := k) h1 n hn hn2 s hs st hst p 1
  have e2 := law_row_ok (g := g) (k := k) h1 n hn hn2 s hs st hst p (-1)
  show retO (match Out.ofR (Res.bind (run g tab (k + 1) (Str.ofString "_law_row") [.int n, .str (Str.ofString s), iT st, .int p, .int 1]) fun x => Res.bind (run g tab (k + 1) (Str.ofString "_law_row") [.int n, .str (Str.ofString s), iT st, .int p, .int (-1)]) fun y => Res.ofO (mn2D x y)) _ with | .nx δ' => _ | o => o) = _
  rw [e1, e2]
  show retO (match Out.ofR (Res.ofO (mn2D (iT _) (iT _))) _ with | .nx δ' => _ | o => o) = _
  rw [min_row, seen_back n hn]
  rfl
end
end Rh

set_option Elab.async false
set_option linter.all false
set_option maxRecDepth 100000
set_option maxHeartbeats 1000000
/-! What the core code computes: dicts of rows, all views. -/
namespace Rh
open PySem (PyData Str)
open Cd
theorem eqv_rows : ∀ a b : List Int, PyData.eqvAll (a.map .int) (b.map .int) = decide (a = b)
  | [], [] => rfl
  | [], _ :: _ => by simp [PyData.eqvAll]
  | _ :: _, [] => by simp [PyData.eqvAll]
  | x :: a, y :: b => by
    rw [List.map_cons, List.map_cons, PyData.eqvAll, eqv_rows a b]
    have e : PyData.eqv (.int x) (.int y) = decide (x = y) := by
      simp only [PyData.eqv]
      rw [Bool.eq_iff_iff, beq_iff_eq, decide_eq_true_eq]
    rw [e, Bool.eq_iff_iff]
    simp
theorem eqv_row (a b : List Int) : PyData.eqv (iT a) (iT b) = decide (a = b) := by
  rw [← eqv_rows]
  simp [PyData.eqv]
theorem keys_all_ints : ∀ v : List Int, isKeyAll (v.map .int) = true
  | [] => by simp [isKeyAll]
  | x :: r => by
    rw [List.map_cons, isKeyAll]
    exact keys_all_ints r
theorem keys_depth : ∀ v : List Int, PySem.NestedKey.depthAll (toKeys (v.map .int)) = 0
  | [] => rfl
  | x :: r => by
    rw [List.map_cons, toKeys, PySem.NestedKey.depthAll, keys_depth r]
    rfl
theorem isKey_row (v : List Int) : isKey (iT v) = true := by
  show (isKeyAll (v.map .int) && decide ((PySem.NestedKey.tup (toKeys (v.map .int))).depth ≤ 8)) = true
  rw [keys_all_ints, PySem.NestedKey.depth, keys_depth]
  rfl
/-- rows in a dict, each with True -/
def dictT (ks : List (List Int)) : List (PyData × PyData) := ks.map fun v => (iT v, .bool true)
def addK (acc : List (List Int)) (v : List Int) : List (List Int) := if v ∈ acc then acc else acc ++ [v]
theorem dput_row (v : List Int) : ∀ acc : List (List Int), dput (iT v) (.bool true) (dictT acc) = dictT (addK acc v)
  | [] => rfl
  | a :: r => by
    show (if PyData.eqv (iT a) (iT v) = true then _ else _) = _
    rw [eqv_row]
    by_cases h : a = v
    · subst h
      simp [addK, dictT]
    · have ih := dput_row v r
      simp only [h, decide_false, Bool.false_eq_true, if_false]
      show (iT a, .bool true) :: dput (iT v) (.bool true) (dictT r) = _
      rw [ih]
      unfold addK
      by_cases h2 : v ∈ r
      · simp [h2, dictT]
      · have h3 : ¬ v = a := fun z => h z.symm
        simp [h2, h3, dictT]
theorem addK_len (acc : List (List Int)) (v : List Int) : (addK acc v).length ≤ acc.length + 1 := by
  unfold addK
  split
  · omega
  · rw [List.length_append, List.length_singleton]
    exact Nat.le_refl _
theorem addK_mem (acc : List (List Int)) (v w : List Int) : w ∈ addK acc v ↔ w ∈ acc ∨ w = v := by
  unfold addK
  split
  · constructor
    · exact .inl
    · rintro (h | h)
      · exact h
      · rw [h]
        assumption
  · rw [List.mem_append, List.mem_singleton]
theorem addK_nodup {acc : List (List Int)} {v : List Int} (h : acc.Nodup) : (addK acc v).Nodup := by
  unfold addK
  split
  · exact h
  · rename_i hv
    rw [List.nodup_append]
    refine ⟨h, by simp, fun a ha b hb => ?_⟩
    rw [List.mem_singleton.mp hb]
    exact fun z => hv (by rw [← z]; exact ha)
/-- the rows of one stand -/
def addV (n : Nat) (s : String) (st : List Int) (acc : List (List Int)) : List (List Int) := st.foldl (fun acc p => addK acc (viewL n s st p)) acc
def vks (n : Nat) (s : String) (L : List (List Int)) (acc : List (List Int)) : List (List Int) := L.foldl (fun acc st => addV n s st acc) acc
theorem fold_mem {α : Type} (F : α → List Int) (w : List Int) : ∀ (ps : List α) (acc : List (List Int)), w ∈ ps.foldl (fun acc p => addK acc (F p)) acc ↔ w ∈ acc ∨ ∃ p ∈ ps, w = F p
  | [], acc => by simp
  | p :: ps, acc => by
    rw [List.foldl_cons, fold_mem F w ps, addK_mem]
    simp [or_assoc]
theorem fold_nodup {α : Type} (F : α → List Int) : ∀ (ps : List α) (acc : List (List Int)), acc.Nodup → (ps.foldl (fun acc p => addK acc (F p)) acc).Nodup
  | [], acc, h => h
  | p :: ps, acc, h => fold_nodup F ps _ (addK_nodup h)
theorem fold_len {α : Type} (F : α → List Int) : ∀ (ps : List α) (acc : List (List Int)), (ps.foldl (fun acc p => addK acc (F p)) acc).length ≤ acc.length + ps.length
  | [], acc => by simp
  | p :: ps, acc => by
    have h1 := fold_len F ps (addK acc (F p))
    have h2 := addK_len acc (F p)
    rw [List.foldl_cons, List.length_cons]
    omega
theorem vks_mem (n : Nat) (s : String) (w : List Int) : ∀ (L : List (List Int)) (acc : List (List Int)), w ∈ vks n s L acc ↔ w ∈ acc ∨ ∃ st ∈ L, ∃ p ∈ st, w = viewL n s st p
  | [], acc => by simp [vks]
  | st :: L, acc => by
    show w ∈ vks n s L (addV n s st acc) ↔ _
    rw [vks_mem n s w L]
    unfold addV
    rw [fold_mem]
    simp [or_assoc]
theorem vks_nodup (n : Nat) (s : String) : ∀ (L : List (List Int)) (acc : List (List Int)), acc.Nodup → (vks n s L acc).Nodup
  | [], acc, h => h
  | st :: L, acc, h => vks_nodup n s L _ (fold_nodup _ st acc h)
theorem vks_len (n : Nat) (s : String) (m : Nat) : ∀ (L : List (List Int)) (acc : List (List Int)), (∀ st ∈ L, st.length ≤ m) → (vks n s L acc).length ≤ acc.length + L.length * m
  | [], acc, _ => by simp [vks]
  | st :: L, acc, h => by
    have h1 := vks_len n s m L (addV n s st acc) fun s hs => h s (List.mem_cons_of_mem _ hs)
    have h2 : (addV n s st acc).length ≤ acc.length + st.length := fold_len _ st acc
    have h3 := h st List.mem_cons_self
    show (vks n s L (addV n s st acc)).length ≤ _
    rw [List.length_cons, Nat.succ_mul]
    omega
section
variable {g : Str → Option PyData} {tab : Str → Option Df} {k : Nat}
theorem views_in {f : Str → List PyData → Res PyData} {F : Str} (n : Nat) (s : String) (m : Option Sl) (st : List Int) (hF : ∀ p : Int, f F [.int n, .str (Str.ofString s), iT st, .int p] = .ok (iT (viewL n s st p))) : ∀ (ps : List Int) (acc : List (List Int)) (o : Option Sl), acc.length + ps.length < lim →
    ∃ o', forL (Rh.execs g f [.dput 3 (.call F (.cons (.var 0) (.cons (.var 1) (.cons (.var 4) (.cons (.var 5) .nil))))) (.bl true)]) (.one 5) (ps.map .int) [some (.sh (.int n)), some (.sh (.str (Str.ofString s))), m, some (.own (.dict (dictT acc))), some (.sh (iT st)), o]
      = .nx [some (.sh (.int n)), some (.sh (.str (Str.ofString s))), m, some (.own (.dict (dictT (ps.foldl (fun acc p => addK acc (viewL n s st p)) acc)))), some (.sh (iT st)), o']
  | [], acc, o, _ => ⟨o, rfl⟩
  | p :: ps, acc, o, hl => by
    rw [List.length_cons] at hl
    have h2 := addK_len acc (viewL n s st p)
    obtain ⟨o', ih⟩ := views_in (f := f) n s m st hF ps (addK acc (viewL n s st p)) (some (.sh (.int p))) (by omega)
    refine ⟨o', ?_⟩
    rw [List.foldl_cons, ← ih]
    show (match (match Out.ofR (f F [.int n, .str (Str.ofString s), iT st, .int p]) (fun kd => if (isKey kd && decide ((dictT acc).length < lim)) = true then _ else Out.stuck) with | .nx δ' => _ | o => o) with | .nx δ2 => _ | .ct δ2 => _ | .bk δ2 => _ | o => o) = _
    rw [hF]
    show (match (match (if (isKey (iT (viewL n s st p)) && decide ((dictT acc).length < lim)) = true then Out.nx (slot _ 3 (.own (.dict (dput (iT (viewL n s st p)) (.bool true) (dictT acc))))) else Out.stuck) with | .nx δ' => _ | o => o) with | .nx δ2 => _ | .ct δ2 => _ | .bk δ2 => _ | o => o) = _
    rw [if_pos, dput_row]
    · rfl
    · rw [isKey_row, Bool.true_and, decide_eq_true_eq]
      unfold dictT
      rw [List.length_map]
      omega
theorem views_out {f : Str → List PyData → Res PyData} {F : Str} (n : Nat) (s : String) (m : Option Sl) (hF : ∀ (st : List Int) (p : Int), st.length ≤ 1000 → f F [.int n, .str (Str.ofString s), iT st, .int p] = .ok (iT (viewL n s st p))) : ∀ (L : List (List Int)) (acc : List (List Int)) (o o2 : Option Sl), (∀ st ∈ L, st.length ≤ 4) → acc.length + L.length * 4 < lim →
    ∃ p p2, forL (Rh.execs g f [.for (.one 5) (.seq (.var 4)) [.dput 3 (.call F (.cons (.var 0) (.cons (.var 1) (.cons (.var 4) (.cons (.var 5) .nil))))) (.bl true)]]) (.one 4) (L.map iT) [some (.sh (.int n)), some (.sh (.str (Str.ofString s))), m, some (.own (.dict (dictT acc))), o, o2]
      = .nx [some (.sh (.int n)), some (.sh (.str (Str.ofString s))), m, some (.own (.dict (dictT (vks n s L acc)))), p, p2]
  | [], acc, o, o2, _, _ => ⟨o, o2, rfl⟩
  | st :: L, acc, o, o2, hL, hl => by
    rw [List.length_cons, Nat.succ_mul] at hl
    have h0 := hL st List.mem_cons_self
    have h2 : (addV n s st acc).length ≤ acc.length + st.length := fold_len _ st acc
    obtain ⟨q, e⟩ := views_in (g := g) (f := f) (F := F) n s m st (fun p => hF st p (by omega)) st acc o2 (by omega)
    obtain ⟨p, p2, ih⟩ := views_out (f := f) (F := F) n s m hF L (addV n s st acc) (some (.sh (iT st))) q (fun s hs => hL s (List.mem_cons_of_mem _ hs)) (by omega)
    refine ⟨p, p2, ?_⟩
    show _ = Out.nx [_, _, _, some (.own (.dict (dictT (vks n s L (addV n s st acc))))), _, _]
    rw [← ih]
    show (match (match forL _ (.one 5) (st.map .int) [some (.sh (.int n)), some (.sh (.str (Str.ofString s))), m, some (.own (.dict (dictT acc))), some (.sh (iT st)), o2] with | .nx δ' => _ | o => o) with | .nx δ2 => _ | .ct δ2 => _ | .bk δ2 => _ | o => o) = _
    rw [e]
    rfl
/-! ### sorted -/
def leR (a b : List Int) : Bool := !decide (b < a)
theorem sortD_rows (ks : List (List Int)) : sortD (ks.map iT) = (ks.mergeSort leR).map iT := by
  unfold sortD
  rw [List.map_mergeSort]
  intro a _ b _
  show leR a b = !PySem.W.dataLt (iT b) (iT a)
  rw [dataLt_row]
  rfl
theorem sortable_rows (ks : List (List Int)) (h : ∀ v ∈ ks, v ≠ []) (hl : ks.length ≤ lim) : sortable (ks.map iT) = true := by
  unfold sortable
  rw [Bool.and_eq_true, Bool.and_eq_true, Bool.and_eq_true]
  refine ⟨⟨⟨?_, ?_⟩, ?_⟩, ?_⟩
  · rw [List.all_eq_true]
    intro a ha
    rw [List.all_eq_true]
    intro b hb
    obtain ⟨x, _, rfl⟩ := List.mem_map.mp ha
    obtain ⟨y, _, rfl⟩ := List.mem_map.mp hb
    simp [PySem.W.alike, PySem.W.alike_ints]
  · rw [Bool.or_eq_true]
    left
    rw [List.all_eq_true]
    intro a ha
    obtain ⟨x, hx, rfl⟩ := List.mem_map.mp ha
    cases x with
    | nil => exact absurd rfl (h _ hx)
    | cons y r => rfl
  · rw [List.length_map, decide_eq_true_eq]
    exact hl
  · rw [List.all_eq_true]
    intro a ha
    obtain ⟨x, _, rfl⟩ := List.mem_map.mp ha
    simp [PyData.depth, PySem.W.depth_ints, PyData.canLay0, lay_ints]
theorem sorted_dict (ks : List (List Int)) (h : ∀ v ∈ ks, v ≠ []) (hl : ks.length ≤ lim) : bi1D .sorted (.dict (dictT ks)) = some (.list ((ks.mergeSort leR).map iT)) := by
  have e1 : (dictT ks).map (·.1) = ks.map iT := by
    unfold dictT
    rw [List.map_map]
    rfl
  show (if _ then _ else _) = _
  rw [e1, if_pos, sortD_rows]
  rw [sortable_rows ks h hl, Bool.and_true, List.all_eq_true]
  intro p hp
  obtain ⟨v, _, rfl⟩ := List.mem_map.mp hp
  exact isKey_row v
/-- all views, rising -/
def viewsL (n : Nat) (s : String) (m : Nat) : List (List Int) := (vks n s (allSt n m) []).mergeSort leR
theorem viewL_len (n : Nat) (s : String) (st : List Int) (p : Int) : (viewL n s st p).length = n := by
  unfold viewL
  split
  · rw [turned_len, seenL_len]
  · rw [seenL_len]
theorem vks_ok (n : Nat) (s : String) (m : Nat) (hn : 0 < n) (hn2 : n ≤ 7) (hm : m ≤ 4) : (∀ v ∈ vks n s (allSt n m) [], v ≠ []) ∧ (vks n s (allSt n m) []).length ≤ lim ∧ ([] : List (List Int)).length + (allSt n m).length * 4 < lim := by
  have z : n ^ m ≤ 2401 := pow_le hn2 hm
  have hl := vks_len n s 4 (allSt n m) [] fun st hst => by
    rw [((all_mem n m st).mp hst).1]
    exact hm
  rw [all_len, List.length_nil] at hl
  refine ⟨fun v hv e => ?_, ?_, ?_⟩
  · rcases (vks_mem n s v (allSt n m) []).mp hv with h | ⟨st, _, p, _, rfl⟩
    · cases h
    · have := viewL_len n s st p
      rw [e] at this
      cases this
      cases hn
  · show _ ≤ 1000000
    omega
  · rw [all_len, List.length_nil]
    show _ < 1000000
    omega
theorem views_end {f : Str → List PyData → Res PyData} {F : Str} (n : Nat) (s : String) (m : Nat) (hn : 0 < n) (hn2 : n ≤ 7) (hm : m ≤ 4) (hF : ∀ (st : List Int) (p : Int), st.length ≤ 1000 → f F [.int n, .str (Str.ofString s), iT st, .int p] = .ok (iT (viewL n s st p))) {A : Str} (hA : f A [.int n, .int m] = .ok (.list ((allSt n m).map iT))) :
    retO (Rh.execs g f [.newD 3, .for (.one 4) (.seq (.call A (.cons (.var 0) (.cons (.var 2) .nil)))) [.for (.one 5) (.seq (.var 4)) [.dput 3 (.call F (.cons (.var 0) (.cons (.var 1) (.cons (.var 4) (.cons (.var 5) .nil))))) (.bl true)]], .frz 3, .ret (.bi1 .sorted (.var 3))]
      [some (.sh (.int n)), some (.sh (.str (Str.ofString s))), some (.sh (.int m)), none, none, none]) = .ok (.list ((viewsL n s m).map iT)) := by
  obtain ⟨h1, h2, h3⟩ := vks_ok n s m hn hn2 hm
  obtain ⟨p, p2, e⟩ := views_out (g := g) (f := f) (F := F) n s (some (.sh (.int m))) hF (allSt n m) [] none none (fun st hst => by rw [((all_mem n m st).mp hst).1]; exact hm) h3
  show retO (match Out.ofR (Res.bind (f A [.int n, .int m]) _) _ with | .nx δ' => _ | o => o) = _
  rw [hA]
  show retO (match forL _ (.one 4) ((allSt n m).map iT) [some (.sh (.int n)), some (.sh (.str (Str.ofString s))), some (.sh (.int m)), some (.own (.dict (dictT []))), none, none] with | .nx δ' => _ | o => o) = _
  rw [e]
  show retO (match Out.ofR (Res.ofO (bi1D .sorted (.dict (dictT (vks n s (allSt n m) []))))) _ with | .nx δ' => _ | o => o) = _
  rw [sorted_dict _ h1 h2]
  rfl
theorem law_views_ok (h1 : tab (Str.ofString "_law_row") = some d_law_row) (h2 : tab (Str.ofString "_law_view") = some d_law_view) (h3 : tab (Str.ofString "_law_stands") = some d_law_stands) (h : tab (Str.ofString "_law_views") = some d_law_views)
    (n m : Nat) (hn : 0 < n) (hn2 : n ≤ 7) (hm : m ≤ 4) (s : String) (hs : s ∈ sights) : run g tab (k + 3) (Str.ofString "_law_views") [.int n, .str (Str.ofString s), .int m] = .ok (.list ((viewsL n s m).map iT)) := by
  rw [run_is h rfl]
  exact views_end (g := g) n s m hn hn2 hm (fun st p hst => law_view_ok (k := k) h1 h2 n hn (by omega) s hs st hst p) (law_stands_ok (k := k + 1) h3 n m hn2 hm)
theorem views_of_ok (h1 : tab (Str.ofString "told_apart") = some d_told_apart) (h2 : tab (Str.ofString "seen_along") = some d_seen_along) (h3 : tab (Str.ofString "turned_view") = some d_turned_view) (h4 : tab (Str.ofString "view_at") = some d_view_at) (h5 : tab (Str.ofString "longer") = some d_longer) (h6 : tab (Str.ofString "all_stands") = some d_all_stands) (h : tab (Str.ofString "views_of") = some d_views_of)
    (n m : Nat) (hn : 0 < n) (hn2 : n ≤ 7) (hm : m ≤ 4) (s : String) : run g tab (k + 4) (Str.ofString "views_of") [.int n, .str (Str.ofString s), .int m] = .ok (.list ((viewsL n s m).map iT)) := by
  rw [run_is h rfl]
  exact views_end (g := g) n s m hn hn2 hm (fun st p hst => view_at_ok (k := k) h1 h2 h3 h4 n hn (by omega) s st p) (all_stands_ok (k := k + 1) h5 h6 n m hn2 hm)
end
end Rh

set_option Elab.async false
set_option linter.all false
set_option maxRecDepth 100000
set_option maxHeartbeats 1000000
/-! Facts about views. -/
namespace Rh
open PySem (PyData Str)
def most (s : String) : Int := if s = "all" then 4 else if s = "many" then 2 else 1
theorem told_le {s : String} {c : Int} (hc : 0 ≤ c) : 0 ≤ told s c ∧ told s c ≤ c := by
  unfold told
  split
  · omega
  · split <;> split <;> omega
theorem told_most {s : String} {c : Int} (hc : 0 ≤ c) (h4 : c ≤ 4) : told s c ≤ most s := by
  unfold told most
  split
  · omega
  · split <;> split <;> omega
theorem told_pos {s : String} {c : Int} (hc : 1 ≤ c) : 1 ≤ told s c := by
  unfold told
  split
  · omega
  · split <;> split <;> omega
theorem sum_ind (c : Nat → Int) (x : Int) : ∀ n, (∀ i j, i < n → j < n → c i = c j → i = j) → ((List.range n).map fun f => if c f = x then (1 : Int) else 0).sum ≤ 1 ∧ ((∀ i, i < n → c i ≠ x) → ((List.range n).map fun f => if c f = x then (1 : Int) else 0).sum = 0)
  | 0, _ => by simp
  | n + 1, hi => by
    obtain ⟨h1, h2⟩ := sum_ind c x n fun i j a b => hi i j (by omega) (by omega)
    rw [List.range_succ, List.map_append, List.sum_append]
    simp only [List.map_cons, List.map_nil, List.sum_cons, List.sum_nil]
    refine ⟨?_, fun h => ?_⟩
    · by_cases e : c n = x
      · rw [if_pos e, h2 fun i hl z => by
          have := hi i n (by omega) (by omega) (z.trans e.symm)
          omega]
        omega
      · rw [if_neg e]
        omega
    · rw [h2 fun i hl => h i (by omega), if_neg (h n (by omega))]
      rfl
theorem map_sum_add (f1 f2 : Nat → Int) : ∀ l : List Nat, (l.map fun i => f1 i + f2 i).sum = (l.map f1).sum + (l.map f2).sum
  | [] => rfl
  | a :: l => by
    simp only [List.map_cons, List.sum_cons, map_sum_add f1 f2 l]
    omega
theorem map_sum_le (f1 f2 : Nat → Int) (h : ∀ i, f1 i ≤ f2 i) : ∀ l : List Nat, (l.map f1).sum ≤ (l.map f2).sum
  | [] => Int.le_refl _
  | a :: l => by
    have := map_sum_le f1 f2 h l
    have := h a
    simp only [List.map_cons, List.sum_cons]
    omega
theorem map_sum_zero : ∀ l : List Nat, (l.map fun _ => (0 : Int)).sum = 0
  | [] => rfl
  | a :: l => by
    simp only [List.map_cons, List.sum_cons, map_sum_zero l]
    rfl
theorem count_sum (c : Nat → Int) (n : Nat) (hi : ∀ i j, i < n → j < n → c i = c j → i = j) : ∀ st : List Int, ((List.range n).map fun f => ((st.count (c f) : Nat) : Int)).sum ≤ st.length
  | [] => by
    simp only [List.count_nil]
    have := map_sum_zero (List.range n)
    simp at this ⊢
    omega
  | x :: r => by
    have ih := count_sum c n hi r
    have e : ((List.range n).map fun f => (((x :: r).count (c f) : Nat) : Int)) = (List.range n).map fun f => ((r.count (c f) : Nat) : Int) + (if c f = x then (1 : Int) else 0) := by
      refine List.map_congr_left fun f _ => ?_
      rw [List.count_cons]
      by_cases z : c f = x
      · rw [z]
        simp
      · have z2 : (x == c f) = false := beq_eq_false_iff_ne.mpr fun y => z y.symm
        simp [z, z2]
    rw [e, map_sum_add, List.length_cons]
    have := (sum_ind c x n hi).1
    omega
theorem mod_inj {n : Nat} {p : Int} (i j : Nat) (hi : i < n) (hj : j < n) (h : (p + 1 * (i : Int)) % n = (p + 1 * (j : Int)) % n) : i = j := by
  have h1 : (((p + 1 * (i : Int)) - (p + 1 * (j : Int))) % n) = 0 := Int.emod_eq_emod_iff_emod_sub_eq_zero.mp h
  have h2 : (p + 1 * (i : Int)) - (p + 1 * (j : Int)) = (i : Int) - j := by omega
  rw [h2] at h1
  obtain ⟨q, hq⟩ := Int.dvd_of_emod_eq_zero h1
  have h3 : q = 0 := by
    rcases Int.lt_trichotomy q 0 with z | z | z
    · have : (n : Int) * q ≤ (n : Int) * (-1) := Int.mul_le_mul_of_nonneg_left (by omega) (by omega)
      omega
    · exact z
    · have : (n : Int) * 1 ≤ (n : Int) * q := Int.mul_le_mul_of_nonneg_left (by omega) (by omega)
      omega
  rw [h3] at hq
  omega
theorem seen_sum (n : Nat) (s : String) (st : List Int) (p : Int) : (seenL n s st p 1).sum ≤ st.length := by
  have h1 := count_sum (fun f => (p + 1 * (f : Int)) % n) n (fun i j a b => mod_inj i j a b) st
  have h2 := map_sum_le (fun (f : Nat) => told s ((st.count ((p + 1 * (f : Int)) % n) : Nat) : Int)) (fun f => ((st.count ((p + 1 * (f : Int)) % n) : Nat) : Int)) (fun f => (told_le (by omega)).2) (List.range n)
  unfold seenL
  omega
theorem turned_turned (v : List Int) : turned (turned v) = v := by
  cases v with
  | nil => rfl
  | cons a r =>
    show a :: r.reverse.reverse = a :: r
    rw [List.reverse_reverse]
theorem turned_sum (v : List Int) : (turned v).sum = v.sum := by
  cases v with
  | nil => rfl
  | cons a r =>
    show (a :: r.reverse).sum = (a :: r).sum
    rw [List.sum_cons, List.sum_cons, List.sum_reverse]
theorem turned_mem (v : List Int) (x : Int) : x ∈ turned v ↔ x ∈ v := by
  cases v with
  | nil => rfl
  | cons a r =>
    show x ∈ a :: r.reverse ↔ x ∈ a :: r
    simp
/-- a view is one -/
structure IsV (n : Nat) (s : String) (v : List Int) : Prop where
  len : v.length = n
  ent : ∀ x ∈ v, 0 ≤ x ∧ x ≤ most s
  hd : ∃ a r, v = a :: r ∧ 0 < a
  sum : v.sum ≤ 4
  le : ¬ turned v < v
theorem view_is (n : Nat) (s : String) (st : List Int) (hl : st.length ≤ 4) (hr : ∀ q ∈ st, 0 ≤ q ∧ q < n) (p : Int) (hp : p ∈ st) : IsV n s (viewL n s st p) := by
  have hn : 0 < n := by
    have := hr p hp
    omega
  have ent : ∀ x ∈ seenL n s st p 1, 0 ≤ x ∧ x ≤ most s := fun x hx => by
    obtain ⟨f, _, rfl⟩ := List.mem_map.mp hx
    have h4 : (((st.count ((p + 1 * (f : Int)) % n) : Nat)) : Int) ≤ 4 := by
      have : st.count ((p + 1 * (f : Int)) % n) ≤ st.length := List.count_le_length
      omega
    exact ⟨(told_le (by omega)).1, told_most (by omega) h4⟩
  have hd : ∃ a r, seenL n s st p 1 = a :: r ∧ 0 < a := by
    have h0 := seen_get n s st p 1 0 hn
    cases e : seenL n s st p 1 with
    | nil =>
      rw [e] at h0
      cases h0
    | cons a r =>
      refine ⟨a, r, rfl, ?_⟩
      rw [e] at h0
      have h1 : a = told s (st.count ((p + 1 * ((0 : Nat) : Int)) % n) : Nat) := Option.some.inj h0
      have h2 : (p + 1 * ((0 : Nat) : Int)) % n = p := by
        have := hr p hp
        rw [show p + 1 * ((0 : Nat) : Int) = p by omega]
        exact Int.emod_eq_of_lt this.1 this.2
      rw [h2] at h1
      have h3 : 0 < st.count p := List.count_pos_iff.mpr hp
      have := told_pos (s := s) (c := ((st.count p : Nat) : Int)) (by omega)
      omega
  have hs : (seenL n s st p 1).sum ≤ 4 := by
    have := seen_sum n s st p
    omega
  unfold viewL
  split
  · rename_i hlt
    refine ⟨by rw [turned_len, seenL_len], fun x hx => ent x ((turned_mem _ x).mp hx), ?_, by rw [turned_sum]; exact hs, by rw [turned_turned]; exact fun z => List.lt_asymm hlt z⟩
    obtain ⟨a, r, e, ha⟩ := hd
    rw [e]
    exact ⟨a, r.reverse, rfl, ha⟩
  · rename_i hlt
    exact ⟨seenL_len .., ent, hd, hs, hlt⟩
theorem row_tri : ∀ a b : List Int, a < b ∨ a = b ∨ b < a
  | [], [] => .inr (.inl rfl)
  | [], y :: b => .inl (List.nil_lt_cons y b)
  | x :: a, [] => .inr (.inr (List.nil_lt_cons x a))
  | x :: a, y :: b => by
    rw [List.cons_lt_cons_iff, List.cons_lt_cons_iff]
    rcases Int.lt_trichotomy x y with z | z | z
    · exact .inl (.inl z)
    · subst z
      rcases row_tri a b with z | z | z
      · exact .inl (.inr ⟨rfl, z⟩)
      · exact .inr (.inl (by rw [z]))
      · exact .inr (.inr (.inr ⟨rfl, z⟩))
    · exact .inr (.inr (.inl z))
theorem leR_trans (a b c : List Int) : leR a b = true → leR b c = true → leR a c = true := by
  unfold leR
  simp only [Bool.not_eq_true', decide_eq_false_iff_not]
  intro h1 h2 h3
  rcases row_tri a b with z | z | z
  · exact h2 (List.lt_trans h3 z)
  · subst z
    exact h2 h3
  · exact h1 z
theorem leR_total (a b : List Int) : (leR a b || leR b a) = true := by
  unfold leR
  by_cases h : b < a
  · have h2 : ¬ a < b := List.lt_asymm h
    simp [h2]
  · simp [h]
/-- the views rise -/
theorem views_rise (n : Nat) (s : String) (m : Nat) : (viewsL n s m).Pairwise fun a b => a < b := by
  have h1 : (viewsL n s m).Pairwise fun a b => leR a b = true := List.pairwise_mergeSort leR_trans leR_total _
  have h2 : (viewsL n s m).Nodup := ((List.mergeSort_perm _ _).nodup_iff).mpr (vks_nodup n s (allSt n m) [] List.nodup_nil)
  refine List.Pairwise.imp₂ (fun a b h3 h4 => ?_) h1 h2
  rcases row_tri a b with z | z | z
  · exact z
  · exact absurd z h4
  · unfold leR at h3
    simp only [Bool.not_eq_true', decide_eq_false_iff_not] at h3
    exact absurd z h3
theorem views_mem (n : Nat) (s : String) (m : Nat) (w : List Int) : w ∈ viewsL n s m ↔ ∃ st, st.length = m ∧ (∀ q ∈ st, 0 ≤ q ∧ q < (n : Int)) ∧ ∃ p ∈ st, w = viewL n s st p := by
  unfold viewsL
  rw [(List.mergeSort_perm _ _).mem_iff, vks_mem]
  constructor
  · rintro (h | ⟨st, h1, p, h2, h3⟩)
    · cases h
    · obtain ⟨h4, h5⟩ := (all_mem n m st).mp h1
      exact ⟨st, h4, h5, p, h2, h3⟩
  · rintro ⟨st, h1, h2, p, h3, h4⟩
    exact .inr ⟨st, (all_mem n m st).mpr ⟨h1, h2⟩, p, h3, h4⟩
theorem views_is (n : Nat) (s : String) (m : Nat) (hm : m ≤ 4) (w : List Int) (h : w ∈ viewsL n s m) : IsV n s w := by
  obtain ⟨st, h1, h2, p, h3, rfl⟩ := (views_mem n s m w).mp h
  exact view_is n s st (by omega) h2 p h3
end Rh

set_option Elab.async false
set_option linter.all false
set_option maxRecDepth 100000
set_option maxHeartbeats 1000000
/-! What the core code computes: books. -/
namespace Rh
open PySem (PyData Str)
open Cd
/-- constants and defs of rings and books -/
structure Base (g : Str → Option PyData) (tab : Str → Option Df) : Prop where
  mh : g (Str.ofString "MOST_HANDS") = some (.int 4)
  ls : g (Str.ofString "LEAST_SIZE") = some (.int 3)
  ms : g (Str.ofString "MOST_SIZE") = some (.int 7)
  mr : g (Str.ofString "MOST_RULES") = some (.int 40)
  sg : g (Str.ofString "SIGHTS") = some (.tuple [.str (Str.ofString "all"), .str (Str.ofString "many"), .str (Str.ofString "some")])
  is_within : tab (Str.ofString "is_within") = some d_is_within
  is_stand : tab (Str.ofString "is_stand") = some d_is_stand
  look_stand : tab (Str.ofString "look_stand") = some d_look_stand
  turned_view : tab (Str.ofString "turned_view") = some d_turned_view
  is_view : tab (Str.ofString "is_view") = some d_is_view
  are_rules : tab (Str.ofString "are_rules") = some d_are_rules
  checked : tab (Str.ofString "checked") = some d_checked
  look : tab (Str.ofString "look") = some d_look
theorem lex_dec : ∀ a b : List Int, HT.lexLt a b = decide (a < b)
  | [], [] => by simp [HT.lexLt]
  | [], y :: b => by simp [HT.lexLt]
  | x :: a, [] => by simp [HT.lexLt]
  | x :: a, y :: b => by
    rw [HT.lexLt_cons, lex_dec a b, Bool.eq_iff_iff]
    by_cases h : x = y
    · subst h
      simp [List.cons_lt_cons_iff]
    · simp [List.cons_lt_cons_iff, h]
theorem le_rows (a b : List Int) : cmpD .LtE (iT a) (iT b) = some (!decide (b < a)) := by
  show ((intsD (a.map .int)).bind fun x => (intsD (b.map .int)).map fun y => lexLe x y) = _
  rw [intsD_map, intsD_map]
  show some (!HT.lexLt b a) = _
  rw [lex_dec]
section
variable {g : Str → Option PyData} {tab : Str → Option Df} {k : Nat}
/-- a comprehension of what is not within: none -/
theorem comp_within {f : Str → List PyData → Res PyData} (i : Nat) (j : Nat) (lo hi : DE) (xs : List PyData) (hx : xs.length ≤ lim) (δ : Ev) (hj : δ[j]? = some (some (.sh (.tuple xs))))
    (h : ∀ x ∈ xs, ev g f (.call (Str.ofString "is_within") (.cons (.var i) (.cons lo (.cons hi .nil)))) (δ.set i none |>.set i (some (.sh x))) = .ok (.bool true)) :
    ev g f (.lc (.one i) (.seq (.var j)) (.some (.nt (.call (Str.ofString "is_within") (.cons (.var i) (.cons lo (.cons hi .nil)))))) (.var i)) δ = .ok (.list []) := by
  have e : ev g f (.lc (.one i) (.seq (.var j)) (.some (.nt (.call (Str.ofString "is_within") (.cons (.var i) (.cons lo (.cons hi .nil)))))) (.var i)) δ = .ok (.list ((xs.filter fun _ => false).map id)) := by
    refine ev_lc_filter _ _ (xs := xs) ?_ hx fun x hxm => ⟨_, .bool false, rfl, ?_, rfl, fun z => by cases z⟩
    · rw [Q.seq, Q.var, hj]
      rfl
    · rw [Q.nt]
      show Res.bind (ev g f (.call (Str.ofString "is_within") (.cons (.var i) (.cons lo (.cons hi .nil)))) ((δ.set i none).set i (some (.sh x)))) _ = _
      rw [h x hxm]
      rfl
  rw [e]
  simp
theorem disp_most {f : Str → List PyData → Res PyData} (h : g (Str.ofString "MOST_HANDS") = some (.int 4)) (s : String) (hs : s ∈ sights) (a b c d : Option Sl) :
    ev g f (.disp [Str.ofString "all", Str.ofString "many", Str.ofString "some"] (.cons (.glob (Str.ofString "MOST_HANDS")) (.cons (.int 2) (.cons (.int 1) .nil))) (.var 1)) [a, some (.sh (.str (Str.ofString s))), b, c, d] = .ok (.int (most s)) := by
  simp only [sights, List.mem_cons, List.not_mem_nil, or_false] at hs
  rcases hs with rfl | rfl | rfl <;> simp [Q.var, Q.int, Q.neg, Q.str, Q.bl, Q.non, Q.glob, Q.tup, Q.lst, Q.bin, Q.cmp, Q.chain, Q.inG, Q.nt, Q.bop, Q.ite, Q.ix, Q.sl, Q.tl0, Q.rev, Q.disp, Q.call, Q.bi1, Q.mn2, Q.isi, Q.cnt, Q.tupRg, Q.lstRg, Q.lenO, Q.ixO, Q.nil, Q.cons, Q.b1, Q.and2, Q.or2, Q.no, Q.some_, Q.seq, Q.rng1, Q.rng2, Q.enm, Q.s_nil, Q.s_cons, Q.s_set, Q.s_setT, Q.s_newL, Q.s_newD, Q.s_app, Q.s_ext, Q.s_dput, Q.s_expr, Q.s_ret, Q.s_retN, Q.s_ite, Q.s_raise, Q.s_frz, Res.bind, Res.ofO, Out.ofR, retO, entry, slot, truth, h, List.lookup, str_beq, str_inj, most]
theorem is_view_ok (B : Base g tab) (n : Nat) (hn : n ≤ 1000) (s : String) (hs : s ∈ sights) (v : List Int) (h : IsV n s v) : run g tab (k + 2) (Str.ofString "is_view") [.int n, .str (Str.ofString s), iT v] = .ok (.bool true) := by
  rw [run_is B.is_view rfl]
  have e1 := disp_most (g := g) (f := run g tab (k + 1)) B.mh s hs (some (.sh (.int n))) (some (.sh (iT v))) none none
  have hl : v.length ≤ 1000 := by rw [h.len]; exact hn
  have e2 := comp_within (g := g) (f := run g tab (k + 1)) 4 2 (.int 0) (.var 3) (v.map .int) (by rw [List.length_map]; show _ ≤ 1000000; omega) [some (.sh (.int n)), some (.sh (.str (Str.ofString s))), some (.sh (iT v)), some (.sh (.int (most s))), none] rfl (fun x hx => by
    obtain ⟨i, hi, rfl⟩ := List.mem_map.mp hx
    have z := is_within_ok (g := g) (k := k) B.is_within (.int i) 0 (most s) (fun q z => by cases z)
    show run g tab (k + 1) (Str.ofString "is_within") [.int i, .int 0, .int (most s)] = _
    rw [z]
    have z2 := h.ent i hi
    simp [within, z2.1, z2.2])
  have e3 := turned_ok (g := g) (k := k) B.turned_view v hl
  show retO (match Out.ofR (ev g (run g tab (k + 1)) _ [some (.sh (.int n)), some (.sh (.str (Str.ofString s))), some (.sh (iT v)), none, none]) _ with | .nx δ' => _ | o => o) = _
  rw [e1]
  have e4 : Rh.exec g (run g tab (k + 1)) (.ite (.bop .Or (.cons (.nt (.isi (.var 2) "tuple")) (.cons (.cmp .NotEq (.bi1 .len (.var 2)) (.var 0)) (.cons (.lc (.one 4) (.seq (.var 2)) (.some (.nt (.call (Str.ofString "is_within") (.cons (.var 4) (.cons (.int 0) (.cons (.var 3) .nil)))))) (.var 4)) .nil)))) [.ret (.bl false)] [])
      [some (.sh (.int n)), some (.sh (.str (Str.ofString s))), some (.sh (iT v)), some (.sh (.int (most s))), none] = .nx [some (.sh (.int n)), some (.sh (.str (Str.ofString s))), some (.sh (iT v)), some (.sh (.int (most s))), none] := by
    simp [Q.var, Q.int, Q.neg, Q.str, Q.bl, Q.non, Q.glob, Q.tup, Q.lst, Q.bin, Q.cmp, Q.chain, Q.inG, Q.nt, Q.bop, Q.ite, Q.ix, Q.sl, Q.tl0, Q.rev, Q.disp, Q.call, Q.bi1, Q.mn2, Q.isi, Q.cnt, Q.tupRg, Q.lstRg, Q.lenO, Q.ixO, Q.nil, Q.cons, Q.b1, Q.and2, Q.or2, Q.no, Q.some_, Q.seq, Q.rng1, Q.rng2, Q.enm, Q.s_nil, Q.s_cons, Q.s_set, Q.s_setT, Q.s_newL, Q.s_newD, Q.s_app, Q.s_ext, Q.s_dput, Q.s_expr, Q.s_ret, Q.s_retN, Q.s_ite, Q.s_raise, Q.s_frz, Res.bind, Res.ofO, Out.ofR, retO, entry, slot, truth, isiD, cmpD, bi1D, eq_int, h.len, e2]
  obtain ⟨x0, r0, ev0, hx0⟩ := h.hd
  have e5 : ixD (iT v) (.int 0) = some (.int x0) := by
    rw [ev0]
    exact L2.atI_nat (j := 0) rfl
  have e6 : bi1D .sum (iT v) = some (.int v.sum) := by
    show ((intsD (v.map .int)).bind fun a => if (a.all small && decide (a.length ≤ lim)) = true then some (PyData.int a.sum) else none) = _
    rw [intsD_map]
    show (if (v.all small && decide (v.length ≤ lim)) = true then some (PyData.int v.sum) else none) = _
    rw [if_pos]
    rw [Bool.and_eq_true, decide_eq_true_eq, List.all_eq_true]
    refine ⟨fun x hx => ?_, by show _ ≤ 1000000; omega⟩
    have z := h.ent x hx
    have z2 : most s ≤ 4 := by
      unfold most
      split
      · omega
      · split <;> omega
    unfold small
    rw [decide_eq_true_eq]
    omega
  have e7 : Rh.exec g (run g tab (k + 1)) (.ret (.bop .And (.cons (.cmp .Gt (.ix (.var 2) (.int 0)) (.int 0)) (.cons (.cmp .LtE (.bi1 .sum (.var 2)) (.glob (Str.ofString "MOST_HANDS"))) (.cons (.cmp .LtE (.var 2) (.call (Str.ofString "turned_view") (.cons (.var 2) .nil))) .nil)))))
      [some (.sh (.int n)), some (.sh (.str (Str.ofString s))), some (.sh (iT v)), some (.sh (.int (most s))), none] = .rt (.bool true) := by
    have hg : cmpD .Gt (.int x0) (.int 0) = some true := by simp [cmpD, hx0]
    have hle : cmpD .LtE (.int v.sum) (.int 4) = some true := by simp [cmpD, h.sum]
    have hle2 : cmpD .LtE (iT v) (iT (turned v)) = some true := by
      rw [le_rows]
      simp [h.le]
    simp [Q.var, Q.int, Q.neg, Q.str, Q.bl, Q.non, Q.glob, Q.tup, Q.lst, Q.bin, Q.cmp, Q.chain, Q.inG, Q.nt, Q.bop, Q.ite, Q.ix, Q.sl, Q.tl0, Q.rev, Q.disp, Q.call, Q.bi1, Q.mn2, Q.isi, Q.cnt, Q.tupRg, Q.lstRg, Q.lenO, Q.ixO, Q.nil, Q.cons, Q.b1, Q.and2, Q.or2, Q.no, Q.some_, Q.seq, Q.rng1, Q.rng2, Q.enm, Q.s_nil, Q.s_cons, Q.s_set, Q.s_setT, Q.s_newL, Q.s_newD, Q.s_app, Q.s_ext, Q.s_dput, Q.s_expr, Q.s_ret, Q.s_retN, Q.s_ite, Q.s_raise, Q.s_frz, Res.bind, Res.ofO, Out.ofR, retO, entry, slot, truth, e5, e6, hg, hle, B.mh, e3, hle2]
  show retO (match Rh.exec g (run g tab (k + 1)) _ [some (.sh (.int n)), some (.sh (.str (Str.ofString s))), some (.sh (iT v)), some (.sh (.int (most s))), none] with | .nx δ' => _ | o => o) = _
  rw [e4]
  show retO (match Rh.exec g (run g tab (k + 1)) _ _ with | .nx δ' => _ | o => o) = _
  rw [e7]
  rfl
end
end Rh

set_option Elab.async false
set_option linter.all false
set_option maxRecDepth 100000
set_option maxHeartbeats 2000000
/-! What the core code computes: rules, books, looks. -/
namespace Rh
open PySem (PyData Str)
open Cd
abbrev pyRule (r : List Int × String) : PyData := .tuple [iT r.1, .str (Str.ofString r.2)]
abbrev rulesT (rs : List (List Int × String)) : PyData := .tuple (rs.map pyRule)
abbrev bookT (n : Nat) (s : String) (rs : List (List Int × String)) : PyData := .tuple [.int n, .str (Str.ofString s), rulesT rs]
/-- rules that are some -/
structure IsR (n : Nat) (s : String) (rs : List (List Int × String)) : Prop where
  view : ∀ r ∈ rs, IsV n s r.1
  way : ∀ r ∈ rs, r.2 = "on" ∨ r.2 = "back"
  rise : rs.Pairwise fun a b => a.1 < b.1
  len : rs.length ≤ 40
def enumD (i : Nat) : List PyData → List PyData
  | [] => []
  | x :: r => .tuple [.int i, x] :: enumD (i + 1) r
theorem enum_eq : ∀ (xs : List PyData) (i : Nat), (xs.mapIdx fun k x => PyData.tuple [.int ((i + k : Nat) : Int), x]) = enumD i xs
  | [], i => rfl
  | x :: r, i => by
    rw [List.mapIdx_cons, enumD, ← enum_eq r (i + 1)]
    have e : (fun (k : Nat) (x : PyData) => PyData.tuple [.int ((i + (k + 1) : Nat) : Int), x]) = fun (k : Nat) (x : PyData) => PyData.tuple [.int ((i + 1 + k : Nat) : Int), x] := by
      funext k x
      rw [show i + (k + 1) = i + 1 + k by omega]
    rw [e]
    rfl
theorem enum_zero (xs : List PyData) : (xs.mapIdx fun k x => PyData.tuple [.int k, x]) = enumD 0 xs := by
  rw [← enum_eq xs 0]
  congr
  funext k x
  rw [Nat.zero_add]
theorem shaped_strs (a b : String) : PySem.SeqAt.shaped (.list [.str (Str.ofString a), .str (Str.ofString b)]) = true := by
  simp [PySem.SeqAt.shaped, PyData.canLay0, PyData.canLayAll0, PyData.depth, PyData.depthAll, str_ok]
theorem in_two (w a b : String) : inD (.str (Str.ofString w)) [.str (Str.ofString a), .str (Str.ofString b)] = some (decide (a = w) || decide (b = w)) := by
  unfold inD
  rw [shaped_str, shaped_strs]
  simp [PyData.eqv, str_beq]
section
variable {g : Str → Option PyData} {tab : Str → Option Df} {k : Nat}
abbrev ruleOne : DS := .ite (.bop .Or (.cons (.nt (.isi (.var 4) "tuple")) (.cons (.cmp .NotEq (.bi1 .len (.var 4)) (.int 2)) (.cons (.nt (.call (Str.ofString "is_view") (.cons (.var 0) (.cons (.var 1) (.cons (.ix (.var 4) (.int 0)) .nil))))) .nil)))) [.ret (.bl false)] []
abbrev ruleBody : List DS := [ruleOne, .ite (.bop .Or (.cons (.cmp .NotIn (.ix (.var 4) (.int 1)) (.tup (.cons (.str (Str.ofString "on")) (.cons (.str (Str.ofString "back")) .nil)))) (.cons (.nt (.isi (.ix (.var 4) (.int 1)) "str")) (.cons (.bop .And (.cons (.cmp .Gt (.var 3) (.int 0)) (.cons (.cmp .LtE (.ix (.var 4) (.int 0)) (.ix (.ix (.var 2) (.bin .Sub (.var 3) (.int 1))) (.int 0))) .nil))) .nil)))) [.ret (.bl false)] []]
theorem rule_ix0 (r : List Int × String) : ixD (pyRule r) (.int 0) = some (iT r.1) := L2.atI_nat (j := 0) rfl
theorem rule_ix1 (r : List Int × String) : ixD (pyRule r) (.int 1) = some (.str (Str.ofString r.2)) := L2.atI_nat (j := 1) rfl
theorem rules_ix {rs : List (List Int × String)} {i : Nat} {r : List Int × String} (h : rs[i]? = some r) : ixD (rulesT rs) (.int i) = some (pyRule r) := by
  refine L2.atI_nat (xs := rs.map pyRule) (j := i) ?_
  rw [List.getElem?_map, h]
  rfl
theorem rule_body (B : Base g tab) (n : Nat) (hn : n ≤ 1000) (s : String) (hs : s ∈ sights) (rs : List (List Int × String)) (r : List Int × String) (hv : IsV n s r.1) (hw : r.2 = "on" ∨ r.2 = "back") (i : Nat)
    (hp : i = 0 ∨ ∃ j q, i = j + 1 ∧ rs[j]? = some q ∧ q.1 < r.1) :
    Rh.execs g (run g tab (k + 2)) ruleBody [some (.sh (.int n)), some (.sh (.str (Str.ofString s))), some (.sh (rulesT rs)), some (.sh (.int i)), some (.sh (pyRule r))] = .nx [some (.sh (.int n)), some (.sh (.str (Str.ofString s))), some (.sh (rulesT rs)), some (.sh (.int i)), some (.sh (pyRule r))] := by
  have e1 := is_view_ok (g := g) (k := k) B n hn s hs r.1 hv
  have e2 : cmpD .NotIn (.str (Str.ofString r.2)) (.tuple [.str (Str.ofString "on"), .str (Str.ofString "back")]) = some false := by
    show (inD _ _).map _ = _
    rw [in_two]
    rcases hw with h | h <;> simp [h]
  have r0 := rule_ix0 r
  have r1 := rule_ix1 r
  have e3 : Rh.exec g (run g tab (k + 2)) ruleOne [some (.sh (.int n)), some (.sh (.str (Str.ofString s))), some (.sh (rulesT rs)), some (.sh (.int i)), some (.sh (pyRule r))] = .nx [some (.sh (.int n)), some (.sh (.str (Str.ofString s))), some (.sh (rulesT rs)), some (.sh (.int i)), some (.sh (pyRule r))] := by
    simp only [pyRule] at r0 ⊢
    simp [ruleOne, Q.var, Q.int, Q.neg, Q.str, Q.bl, Q.non, Q.glob, Q.tup, Q.lst, Q.bin, Q.cmp, Q.chain, Q.inG, Q.nt, Q.bop, Q.ite, Q.ix, Q.sl, Q.tl0, Q.rev, Q.disp, Q.call, Q.bi1, Q.mn2, Q.isi, Q.cnt, Q.tupRg, Q.lstRg, Q.lenO, Q.ixO, Q.nil, Q.cons, Q.b1, Q.and2, Q.or2, Q.no, Q.some_, Q.seq, Q.rng1, Q.rng2, Q.enm, Q.s_nil, Q.s_cons, Q.s_set, Q.s_setT, Q.s_newL, Q.s_newD, Q.s_app, Q.s_ext, Q.s_dput, Q.s_expr, Q.s_ret, Q.s_retN, Q.s_ite, Q.s_raise, Q.s_frz, Res.bind, Res.ofO, Out.ofR, retO, entry, slot, truth, isiD, cmpD, bi1D, eq_int, r0, e1]
  show (match Rh.exec g (run g tab (k + 2)) ruleOne _ with | .nx δ' => _ | o => o) = _
  rw [e3]
  have hc : ev g (run g tab (k + 2)) (.bop .And (.cons (.cmp .Gt (.var 3) (.int 0)) (.cons (.cmp .LtE (.ix (.var 4) (.int 0)) (.ix (.ix (.var 2) (.bin .Sub (.var 3) (.int 1))) (.int 0))) .nil))) [some (.sh (.int n)), some (.sh (.str (Str.ofString s))), some (.sh (rulesT rs)), some (.sh (.int i)), some (.sh (pyRule r))] = .ok (.bool false) := by
    rcases hp with h0 | ⟨j, q, h1, h2, h3⟩
    · subst h0
      simp [Q.var, Q.int, Q.neg, Q.str, Q.bl, Q.non, Q.glob, Q.tup, Q.lst, Q.bin, Q.cmp, Q.chain, Q.inG, Q.nt, Q.bop, Q.ite, Q.ix, Q.sl, Q.tl0, Q.rev, Q.disp, Q.call, Q.bi1, Q.mn2, Q.isi, Q.cnt, Q.tupRg, Q.lstRg, Q.lenO, Q.ixO, Q.nil, Q.cons, Q.b1, Q.and2, Q.or2, Q.no, Q.some_, Q.seq, Q.rng1, Q.rng2, Q.enm, Q.s_nil, Q.s_cons, Q.s_set, Q.s_setT, Q.s_newL, Q.s_newD, Q.s_app, Q.s_ext, Q.s_dput, Q.s_expr, Q.s_ret, Q.s_retN, Q.s_ite, Q.s_raise, Q.s_frz, Res.bind, Res.ofO, Out.ofR, retO, entry, slot, truth, cmpD]
    · subst h1
      have e4 : cmpD .Gt (.int ((j : Int) + 1)) (.int 0) = some true := by
        simp only [cmpD, Option.some.injEq, decide_eq_true_eq]
        omega
      have e5 : binD .Sub (.int ((j : Int) + 1)) (.int 1) = some (.int (j : Int)) := by
        simp only [binD, Option.some.injEq, PyData.int.injEq]
        omega
      have e6 := rules_ix h2
      have e7 := rule_ix0 q
      have e8 : cmpD .LtE (iT r.1) (iT q.1) = some false := by
        rw [le_rows]
        simp [h3]
      simp only [pyRule] at r0 e6 e7 ⊢
      simp only [rulesT] at e6 ⊢
      simp [Q.var, Q.int, Q.neg, Q.str, Q.bl, Q.non, Q.glob, Q.tup, Q.lst, Q.bin, Q.cmp, Q.chain, Q.inG, Q.nt, Q.bop, Q.ite, Q.ix, Q.sl, Q.tl0, Q.rev, Q.disp, Q.call, Q.bi1, Q.mn2, Q.isi, Q.cnt, Q.tupRg, Q.lstRg, Q.lenO, Q.ixO, Q.nil, Q.cons, Q.b1, Q.and2, Q.or2, Q.no, Q.some_, Q.seq, Q.rng1, Q.rng2, Q.enm, Q.s_nil, Q.s_cons, Q.s_set, Q.s_setT, Q.s_newL, Q.s_newD, Q.s_app, Q.s_ext, Q.s_dput, Q.s_expr, Q.s_ret, Q.s_retN, Q.s_ite, Q.s_raise, Q.s_frz, Res.bind, Res.ofO, Out.ofR, retO, entry, slot, truth, e4, e5, e6, e7, r0, e8]
  have hnot : ev g (run g tab (k + 2)) (.cmp .NotIn (.ix (.var 4) (.int 1)) (.tup (.cons (.str (Str.ofString "on")) (.cons (.str (Str.ofString "back")) .nil)))) [some (.sh (.int n)), some (.sh (.str (Str.ofString s))), some (.sh (rulesT rs)), some (.sh (.int i)), some (.sh (pyRule r))] = .ok (.bool false) := by
    simp only [pyRule] at r1 ⊢
    simp [Q.var, Q.int, Q.neg, Q.str, Q.bl, Q.non, Q.glob, Q.tup, Q.lst, Q.bin, Q.cmp, Q.chain, Q.inG, Q.nt, Q.bop, Q.ite, Q.ix, Q.sl, Q.tl0, Q.rev, Q.disp, Q.call, Q.bi1, Q.mn2, Q.isi, Q.cnt, Q.tupRg, Q.lstRg, Q.lenO, Q.ixO, Q.nil, Q.cons, Q.b1, Q.and2, Q.or2, Q.no, Q.some_, Q.seq, Q.rng1, Q.rng2, Q.enm, Q.s_nil, Q.s_cons, Q.s_set, Q.s_setT, Q.s_newL, Q.s_newD, Q.s_app, Q.s_ext, Q.s_dput, Q.s_expr, Q.s_ret, Q.s_retN, Q.s_ite, Q.s_raise, Q.s_frz, Res.bind, Res.ofO, Out.ofR, retO, entry, slot, truth, r1, e2, lim]
  have hstr : ev g (run g tab (k + 2)) (.nt (.isi (.ix (.var 4) (.int 1)) "str")) [some (.sh (.int n)), some (.sh (.str (Str.ofString s))), some (.sh (rulesT rs)), some (.sh (.int i)), some (.sh (pyRule r))] = .ok (.bool false) := by
    simp only [pyRule] at r1 ⊢
    simp [Q.var, Q.int, Q.neg, Q.str, Q.bl, Q.non, Q.glob, Q.tup, Q.lst, Q.bin, Q.cmp, Q.chain, Q.inG, Q.nt, Q.bop, Q.ite, Q.ix, Q.sl, Q.tl0, Q.rev, Q.disp, Q.call, Q.bi1, Q.mn2, Q.isi, Q.cnt, Q.tupRg, Q.lstRg, Q.lenO, Q.ixO, Q.nil, Q.cons, Q.b1, Q.and2, Q.or2, Q.no, Q.some_, Q.seq, Q.rng1, Q.rng2, Q.enm, Q.s_nil, Q.s_cons, Q.s_set, Q.s_setT, Q.s_newL, Q.s_newD, Q.s_app, Q.s_ext, Q.s_dput, Q.s_expr, Q.s_ret, Q.s_retN, Q.s_ite, Q.s_raise, Q.s_frz, Res.bind, Res.ofO, Out.ofR, retO, entry, slot, truth, r1, isiD]
  show (match Rh.exec g (run g tab (k + 2)) (.ite (.bop .Or (.cons _ (.cons _ (.cons _ .nil)))) _ _) _ with | .nx δ' => _ | o => o) = _
  rw [Q.s_ite, Q.bop, Q.or2, hnot]
  simp only [Res.bind, truth, Q.or2, hstr, Q.b1, hc, Out.ofR, Q.s_nil]
theorem rules_loop (B : Base g tab) (n : Nat) (hn : n ≤ 1000) (s : String) (hs : s ∈ sights) (rs : List (List Int × String)) (hr : IsR n s rs) : ∀ (l : List (List Int × String)) (i : Nat) (o o2 : Option Sl), rs.drop i = l →
    ∃ p p2, forL (Rh.execs g (run g tab (k + 2)) ruleBody) (.many [3, 4]) (enumD i (l.map pyRule)) [some (.sh (.int n)), some (.sh (.str (Str.ofString s))), some (.sh (rulesT rs)), o, o2] = .nx [some (.sh (.int n)), some (.sh (.str (Str.ofString s))), some (.sh (rulesT rs)), p, p2]
  | [], i, o, o2, _ => ⟨o, o2, rfl⟩
  | r :: l, i, o, o2, e => by
    have hri : rs[i]? = some r := by
      have z : (rs.drop i)[0]? = some r := by
        rw [e]
        rfl
      rw [List.getElem?_drop] at z
      simpa using z
    have e2 : rs.drop (i + 1) = l := by
      have z : (rs.drop i).drop 1 = l := by
        rw [e]
        rfl
      rw [List.drop_drop] at z
      exact z
    obtain ⟨p, p2, ih⟩ := rules_loop B n hn s hs rs hr l (i + 1) (some (.sh (.int i))) (some (.sh (pyRule r))) e2
    refine ⟨p, p2, ?_⟩
    rw [← ih]
    have hm := List.mem_of_getElem? hri
    have hb := rule_body (g := g) (k := k) B n hn s hs rs r (hr.view r hm) (hr.way r hm) i (by
      cases i with
      | zero => exact .inl rfl
      | succ j =>
        right
        have hj : j < rs.length := by
          have := (List.getElem?_eq_some_iff.mp hri).1
          omega
        refine ⟨j, rs[j], rfl, List.getElem?_eq_getElem hj, ?_⟩
        obtain ⟨h1, h2⟩ := List.getElem?_eq_some_iff.mp hri
        rw [← h2]
        exact List.pairwise_iff_getElem.mp hr.rise j (j + 1) hj h1 (by omega))
    show (match Rh.execs g (run g tab (k + 2)) ruleBody [some (.sh (.int n)), some (.sh (.str (Str.ofString s))), some (.sh (rulesT rs)), some (.sh (.int i)), some (.sh (pyRule r))] with | .nx δ2 => _ | .ct δ2 => _ | .bk δ2 => _ | o => o) = _
    rw [hb]
theorem are_rules_ok (B : Base g tab) (n : Nat) (hn : n ≤ 1000) (s : String) (hs : s ∈ sights) (rs : List (List Int × String)) (hr : IsR n s rs) :
    run g tab (k + 3) (Str.ofString "are_rules") [.int n, .str (Str.ofString s), rulesT rs] = .ok (.bool true) := by
  rw [run_is B.are_rules rfl]
  obtain ⟨p, p2, e⟩ := rules_loop (g := g) (k := k) B n hn s hs rs hr rs 0 none none rfl
  have e1 : Rh.exec g (run g tab (k + 2)) (.ite (.bop .Or (.cons (.nt (.isi (.var 2) "tuple")) (.cons (.cmp .Gt (.bi1 .len (.var 2)) (.glob (Str.ofString "MOST_RULES"))) .nil))) [.ret (.bl false)] []) [some (.sh (.int n)), some (.sh (.str (Str.ofString s))), some (.sh (rulesT rs)), none, none]
      = .nx [some (.sh (.int n)), some (.sh (.str (Str.ofString s))), some (.sh (rulesT rs)), none, none] := by
    have hl : cmpD .Gt (.int ((rs.map pyRule).length : Int)) (.int 40) = some false := by
      have := hr.len
      simp only [cmpD, List.length_map, Option.some.injEq, decide_eq_false_iff_not]
      omega
    simp only [Q.var, Q.int, Q.neg, Q.str, Q.bl, Q.non, Q.glob, Q.tup, Q.lst, Q.bin, Q.cmp, Q.chain, Q.inG, Q.nt, Q.bop, Q.ite, Q.ix, Q.sl, Q.tl0, Q.rev, Q.disp, Q.call, Q.bi1, Q.mn2, Q.isi, Q.cnt, Q.tupRg, Q.lstRg, Q.lenO, Q.ixO, Q.nil, Q.cons, Q.b1, Q.and2, Q.or2, Q.no, Q.some_, Q.seq, Q.rng1, Q.rng2, Q.enm, Q.s_nil, Q.s_cons, Q.s_set, Q.s_setT, Q.s_newL, Q.s_newD, Q.s_app, Q.s_ext, Q.s_dput, Q.s_expr, Q.s_ret, Q.s_retN, Q.s_ite, Q.s_raise, Q.s_frz, Res.bind, Res.ofO, Out.ofR, retO, entry, slot, truth, List.getElem?_cons_succ, List.getElem?_cons_zero, isiD, bi1D, B.mr, hl]
    simp
  show retO (match Rh.exec g (run g tab (k + 2)) _ [some (.sh (.int n)), some (.sh (.str (Str.ofString s))), some (.sh (rulesT rs)), none, none] with | .nx δ' => _ | o => o) = _
  rw [e1]
  show retO (match forL (Rh.execs g (run g tab (k + 2)) ruleBody) (.many [3, 4]) ((rs.map pyRule).mapIdx fun k x => .tuple [.int k, x]) [some (.sh (.int n)), some (.sh (.str (Str.ofString s))), some (.sh (rulesT rs)), none, none] with | .nx δ' => _ | o => o) = _
  rw [enum_zero, e]
  rfl
end
end Rh

set_option Elab.async false
set_option linter.all false
set_option maxRecDepth 100000
set_option maxHeartbeats 2000000
/-! What the core code computes: looks at books and stands, views. -/
namespace Rh
open PySem (PyData Str)
open Cd
/-- a book that is one -/
structure IsB (n : Nat) (s : String) (rs : List (List Int × String)) : Prop where
  lo : 3 ≤ n
  hi : n ≤ 7
  si : s ∈ sights
  ru : IsR n s rs
/-- a stand that is one -/
structure IsS (n : Nat) (st : List Int) : Prop where
  lo : 1 ≤ st.length
  hi : st.length ≤ 4
  rg : ∀ p ∈ st, 0 ≤ p ∧ p < (n : Int)
section
variable {g : Str → Option PyData} {tab : Str → Option Df} {k : Nat}
theorem book_ix0 (n : Nat) (s : String) (rs : List (List Int × String)) : ixD (bookT n s rs) (.int 0) = some (.int n) := L2.atI_nat (j := 0) rfl
theorem book_ix1 (n : Nat) (s : String) (rs : List (List Int × String)) : ixD (bookT n s rs) (.int 1) = some (.str (Str.ofString s)) := L2.atI_nat (j := 1) rfl
theorem book_ix2 (n : Nat) (s : String) (rs : List (List Int × String)) : ixD (bookT n s rs) (.int 2) = some (rulesT rs) := L2.atI_nat (j := 2) rfl
theorem in_sights (s : String) (hs : s ∈ sights) : inD (.str (Str.ofString s)) [.str (Str.ofString "all"), .str (Str.ofString "many"), .str (Str.ofString "some")] = some true := by
  unfold inD
  have h : PySem.SeqAt.shaped (.list [.str (Str.ofString "all"), .str (Str.ofString "many"), .str (Str.ofString "some")]) = true := by
    simp [PySem.SeqAt.shaped, PyData.canLay0, PyData.canLayAll0, PyData.depth, PyData.depthAll, str_ok]
  rw [shaped_str, h]
  simp only [sights, List.mem_cons, List.not_mem_nil, or_false] at hs
  rcases hs with rfl | rfl | rfl <;> simp [PyData.eqv, str_beq]
theorem checked_ok (B : Base g tab) {n : Nat} {s : String} {rs : List (List Int × String)} (h : IsB n s rs) : run g tab (k + 4) (Str.ofString "checked") [bookT n s rs] = .ok (bookT n s rs) := by
  rw [run_is B.checked rfl]
  have w1 : run g tab (k + 3) (Str.ofString "is_within") [.int n, .int 3, .int 7] = .ok (.bool true) := by
    rw [is_within_ok (k := k + 2) B.is_within _ _ _ fun q z => by cases z]
    have h1 := h.lo
    have h2 := h.hi
    have z : within (.int n) 3 7 = true := by
      simp only [within, Bool.and_eq_true, decide_eq_true_eq]
      omega
    rw [z]
  have w2 := are_rules_ok (g := g) (k := k) B n (by have := h.hi; omega) s h.si rs h.ru
  have i0 := book_ix0 n s rs
  have i1 := book_ix1 n s rs
  have i2 := book_ix2 n s rs
  have s1 := in_sights s h.si
  simp only [bookT] at i0 i1 i2 ⊢
  simp [d_checked, Q.var, Q.int, Q.neg, Q.str, Q.bl, Q.non, Q.glob, Q.tup, Q.lst, Q.bin, Q.cmp, Q.chain, Q.inG, Q.nt, Q.bop, Q.ite, Q.ix, Q.sl, Q.tl0, Q.rev, Q.disp, Q.call, Q.bi1, Q.mn2, Q.isi, Q.cnt, Q.tupRg, Q.lstRg, Q.lenO, Q.ixO, Q.nil, Q.cons, Q.b1, Q.and2, Q.or2, Q.no, Q.some_, Q.seq, Q.rng1, Q.rng2, Q.enm, Q.s_nil, Q.s_cons, Q.s_set, Q.s_setT, Q.s_newL, Q.s_newD, Q.s_app, Q.s_ext, Q.s_dput, Q.s_expr, Q.s_ret, Q.s_retN, Q.s_ite, Q.s_raise, Q.s_frz, Res.bind, Res.ofO, Out.ofR, retO, entry, slot, truth, isiD, bi1D, cmpD, eq_int, i0, i1, i2, B.ls, B.ms, B.sg, w1, w2, s1]
theorem is_stand_ok (B : Base g tab) {n : Nat} (hn : n ≤ 1000) {st : List Int} (h : IsS n st) : run g tab (k + 2) (Str.ofString "is_stand") [.int n, iT st] = .ok (.bool true) := by
  rw [run_is B.is_stand rfl]
  have h1 := h.lo
  have h2 := h.hi
  have e2 := comp_within (g := g) (f := run g tab (k + 1)) 2 1 (.int 0) (.bin .Sub (.var 0) (.int 1)) (st.map .int) (by rw [List.length_map]; show _ ≤ 1000000; omega) [some (.sh (.int n)), some (.sh (iT st)), none] rfl (fun x hx => by
    obtain ⟨i, hi, rfl⟩ := List.mem_map.mp hx
    have z := is_within_ok (g := g) (k := k) B.is_within (.int i) 0 ((n : Int) - 1) (fun q z => by cases z)
    show run g tab (k + 1) (Str.ofString "is_within") [.int i, .int 0, .int ((n : Int) - 1)] = _
    rw [z]
    have z2 := h.rg i hi
    have z3 : within (.int i) 0 ((n : Int) - 1) = true := by
      simp only [within, Bool.and_eq_true, decide_eq_true_eq]
      omega
    rw [z3])
  have c1 : cmpD .LtE (.int 1) (.int ((st.map PyData.int).length : Int)) = some true := by
    simp only [cmpD, List.length_map, Option.some.injEq, decide_eq_true_eq]
    omega
  have c2 : cmpD .LtE (.int ((st.map PyData.int).length : Int)) (.int 4) = some true := by
    simp only [cmpD, List.length_map, Option.some.injEq, decide_eq_true_eq]
    omega
  have e1 : Rh.exec g (run g tab (k + 1)) (.ite (.bop .Or (.cons (.nt (.isi (.var 1) "tuple")) (.cons (.nt (.chain .LtE .LtE (.int 1) (.bi1 .len (.var 1)) (.glob (Str.ofString "MOST_HANDS")))) .nil))) [.ret (.bl false)] []) [some (.sh (.int n)), some (.sh (iT st)), none] = .nx [some (.sh (.int n)), some (.sh (iT st)), none] := by
    simp only [Q.var, Q.int, Q.neg, Q.str, Q.bl, Q.non, Q.glob, Q.tup, Q.lst, Q.bin, Q.cmp, Q.chain, Q.inG, Q.nt, Q.bop, Q.ite, Q.ix, Q.sl, Q.tl0, Q.rev, Q.disp, Q.call, Q.bi1, Q.mn2, Q.isi, Q.cnt, Q.tupRg, Q.lstRg, Q.lenO, Q.ixO, Q.nil, Q.cons, Q.b1, Q.and2, Q.or2, Q.no, Q.some_, Q.seq, Q.rng1, Q.rng2, Q.enm, Q.s_nil, Q.s_cons, Q.s_set, Q.s_setT, Q.s_newL, Q.s_newD, Q.s_app, Q.s_ext, Q.s_dput, Q.s_expr, Q.s_ret, Q.s_retN, Q.s_ite, Q.s_raise, Q.s_frz, Res.bind, Res.ofO, Out.ofR, retO, entry, slot, truth, List.getElem?_cons_succ, List.getElem?_cons_zero, isiD, bi1D, B.mh, c1, c2]
    simp
  show retO (match Rh.exec g (run g tab (k + 1)) _ [some (.sh (.int n)), some (.sh (iT st)), none] with | .nx δ' => _ | o => o) = _
  rw [e1]
  show retO (match Out.ofR (Res.bind (ev g (run g tab (k + 1)) _ [some (.sh (.int n)), some (.sh (iT st)), none]) _) _ with | .nx δ' => _ | o => o) = _
  rw [e2]
  rfl
theorem look_stand_ok (B : Base g tab) {n : Nat} (hn : n ≤ 1000) {st : List Int} (h : IsS n st) : run g tab (k + 3) (Str.ofString "look_stand") [.int n, iT st] = .ok .none := by
  rw [run_is B.look_stand rfl]
  have e := is_stand_ok (g := g) (k := k) B hn h
  show retO (match Out.ofR (Res.bind (run g tab (k + 2) (Str.ofString "is_stand") [.int n, iT st]) _) _ with | .nx δ' => _ | o => o) = _
  rw [e]
  rfl
theorem look_ok (B : Base g tab) {n : Nat} {s : String} {rs : List (List Int × String)} (h : IsB n s rs) {st : List Int} (hs : IsS n st) : run g tab (k + 5) (Str.ofString "look") [bookT n s rs, iT st] = .ok .none := by
  rw [run_is B.look rfl]
  have e1 := checked_ok (g := g) (k := k) B h
  have e2 := look_stand_ok (g := g) (k := k + 1) B (by have := h.hi; omega) hs
  have i0 := book_ix0 n s rs
  show retO (match Out.ofR (run g tab (k + 4) (Str.ofString "checked") [bookT n s rs]) _ with | .nx δ' => _ | o => o) = _
  rw [e1]
  show retO (match Out.ofR (Res.bind (Res.bind (Res.ofO (ixD (bookT n s rs) (.int 0))) _) _) _ with | .nx δ' => _ | o => o) = _
  rw [i0]
  show retO (match Out.ofR (run g tab (k + 4) (Str.ofString "look_stand") [.int n, iT st]) _ with | .nx δ' => _ | o => o) = _
  rw [e2]
  rfl
theorem stand_ix {st : List Int} {h : Nat} {p : Int} (e : st[h]? = some p) : ixD (iT st) (.int h) = some (.int p) := by
  refine L2.atI_nat (xs := st.map PyData.int) (j := h) ?_
  rw [List.getElem?_map, e]
  rfl
/-- the defs of views -/
structure BaseV (g : Str → Option PyData) (tab : Str → Option Df) : Prop extends Base g tab where
  told_apart : tab (Str.ofString "told_apart") = some d_told_apart
  seen_along : tab (Str.ofString "seen_along") = some d_seen_along
  view_at : tab (Str.ofString "view_at") = some d_view_at
theorem view_ok (B : BaseV g tab) (hv : tab (Str.ofString "view") = some d_view) {n : Nat} {s : String} {rs : List (List Int × String)} (h : IsB n s rs) {st : List Int} (hs : IsS n st) {j : Nat} {p : Int} (hj : st[j]? = some p) :
    run g tab (k + 6) (Str.ofString "view") [bookT n s rs, iT st, .int j] = .ok (iT (viewL n s st p)) := by
  rw [run_is hv rfl]
  have e1 := look_ok (g := g) (k := k) B.toBase h hs
  have hjl := (List.getElem?_eq_some_iff.mp hj).1
  have e2 : run g tab (k + 5) (Str.ofString "is_within") [.int j, .int 0, .int (((st.map PyData.int).length : Int) - 1)] = .ok (.bool true) := by
    rw [is_within_ok (k := k + 4) B.is_within _ _ _ fun q z => by cases z]
    have z : within (.int j) 0 (((st.map PyData.int).length : Int) - 1) = true := by
      simp only [within, List.length_map, Bool.and_eq_true, decide_eq_true_eq]
      omega
    rw [z]
  have e3 := view_at_ok (g := g) (k := k + 2) B.told_apart B.seen_along B.turned_view B.view_at n (by have := h.lo; omega) (by have := h.hi; omega) s st p
  have i0 := book_ix0 n s rs
  have i1 := book_ix1 n s rs
  have i2 := stand_ix hj
  show retO (match Out.ofR (run g tab (k + 5) (Str.ofString "look") [bookT n s rs, iT st]) _ with | .nx δ' => _ | o => o) = _
  rw [e1]
  show retO (match Out.ofR (Res.bind (run g tab (k + 5) (Str.ofString "is_within") [.int j, .int 0, .int (((st.map PyData.int).length : Int) - 1)]) _) _ with | .nx δ' => _ | o => o) = _
  rw [e2]
  show retO (match Out.ofR (Res.bind (Res.bind (Res.ofO (ixD (bookT n s rs) (.int 0))) _) _) _ with | .nx δ' => _ | o => o) = _
  rw [i0]
  show retO (match Out.ofR (Res.bind (Res.bind (Res.bind (Res.ofO (ixD (bookT n s rs) (.int 1))) _) _) _) _ with | .nx δ' => _ | o => o) = _
  rw [i1]
  show retO (match Out.ofR (Res.bind (Res.bind (Res.bind (Res.bind (Res.bind (Res.ofO (ixD (iT st) (.int j))) _) _) _) _) _) _ with | .nx δ' => _ | o => o) = _
  rw [i2]
  show retO (match Out.ofR (run g tab (k + 5) (Str.ofString "view_at") [.int n, .str (Str.ofString s), iT st, .int p]) _ with | .nx δ' => _ | o => o) = _
  rw [e3]
  rfl
end
end Rh

set_option Elab.async false
set_option linter.all false
set_option maxRecDepth 100000
set_option maxHeartbeats 2000000
/-! What the core code computes: the law's draws. -/
namespace Rh
open PySem (PyData Str)
open PySem.Builtin.Int (intBits)
open Cd
theorem bits_le {x : Int} {b : Nat} (h : x.natAbs < 2 ^ b) : intBits x ≤ b := by
  unfold intBits
  by_cases hx : x = 0
  · rw [if_pos (by rw [hx]; rfl)]
    exact Nat.zero_le _
  · rw [if_neg (by simpa using hx)]
    exact (Nat.log2_lt (by omega)).mpr h
theorem bits_lt {x : Int} {b : Nat} (h : intBits x ≤ b) : x.natAbs < 2 ^ b := by
  unfold intBits at h
  by_cases hx : x = 0
  · rw [hx]
    exact Nat.two_pow_pos b
  · rw [if_neg (by simpa using hx)] at h
    exact (Nat.log2_lt (by omega)).mp h
theorem bits_add {x y : Int} {b : Nat} (h : intBits x ≤ b) (hb : 20 ≤ b) (hy : y.natAbs < 2 ^ 20) : intBits (x + y) ≤ b + 1 := by
  have h1 := bits_lt h
  have h2 : 2 ^ 20 ≤ 2 ^ b := Nat.pow_le_pow_right (by decide) hb
  refine bits_le ?_
  rw [Nat.pow_succ]
  generalize 2 ^ b = q at *
  omega
def cell (ns : List Int) (i : Nat) : Int := ns.getD i 0
def mix (c : Int) (p m : Nat) : Nat := ((((c * 48271 % p) ^ 3 % p) % m)).toNat
theorem mix_lt (c : Int) (p m : Nat) (hm : 0 < m) : mix c p m < m := by
  unfold mix
  have h1 := Int.emod_lt_of_pos ((c * 48271 % p) ^ 3 % p) (show (0 : Int) < m by omega)
  have h2 := Int.emod_nonneg ((c * 48271 % p) ^ 3 % p) (show (m : Int) ≠ 0 by omega)
  omega
section
variable {g : Str → Option PyData} {tab : Str → Option Df} {k : Nat}
theorem cell_ok (h : tab (Str.ofString "_law_cell") = some d_law_cell) (ns : List Int) (i : Nat) : run g tab (k + 1) (Str.ofString "_law_cell") [scrD ns, .int i] = .ok (.int (cell ns i)) := by
  rw [run_is h rfl]
  have e1 : bi1D .len (scrD ns) = some (.int ((ns.map PyData.int).length : Int)) := rfl
  by_cases hi : i < ns.length
  · have e2 : cmpD .Lt (.int i) (.int ((ns.map PyData.int).length : Int)) = some true := by
      simp only [cmpD, List.length_map, Option.some.injEq, decide_eq_true_eq]
      omega
    have e3 : ixD (scrD ns) (.int i) = some (.int (cell ns i)) := by
      show L2.atI (ns.map PyData.int) (i : Int) = _
      refine L2.atI_nat ?_
      rw [List.getElem?_map, List.getElem?_eq_getElem hi]
      unfold cell
      rw [List.getD_eq_getElem?_getD, List.getElem?_eq_getElem hi]
      rfl
    simp only [d_law_cell, Q.var, Q.int, Q.neg, Q.str, Q.bl, Q.non, Q.glob, Q.tup, Q.lst, Q.bin, Q.cmp, Q.chain, Q.inG, Q.nt, Q.bop, Q.ite, Q.ix, Q.sl, Q.tl0, Q.rev, Q.disp, Q.call, Q.bi1, Q.mn2, Q.isi, Q.cnt, Q.tupRg, Q.lstRg, Q.lenO, Q.ixO, Q.nil, Q.cons, Q.b1, Q.and2, Q.or2, Q.no, Q.some_, Q.seq, Q.rng1, Q.rng2, Q.enm, Q.s_nil, Q.s_cons, Q.s_set, Q.s_setT, Q.s_newL, Q.s_newD, Q.s_app, Q.s_ext, Q.s_dput, Q.s_expr, Q.s_ret, Q.s_retN, Q.s_ite, Q.s_raise, Q.s_frz, Res.bind, Res.ofO, Out.ofR, retO, entry, slot, truth, List.map_cons, List.map_nil, List.cons_append, List.nil_append, List.getElem?_cons_succ, List.getElem?_cons_zero, e1, e2, e3, Option.map_some]
  · have e2 : cmpD .Lt (.int i) (.int ((ns.map PyData.int).length : Int)) = some false := by
      simp only [cmpD, List.length_map, Option.some.injEq, decide_eq_false_iff_not]
      omega
    have e3 : cell ns i = 0 := by
      unfold cell
      rw [List.getD_eq_getElem?_getD, List.getElem?_eq_none (by omega)]
      rfl
    simp only [d_law_cell, Q.var, Q.int, Q.neg, Q.str, Q.bl, Q.non, Q.glob, Q.tup, Q.lst, Q.bin, Q.cmp, Q.chain, Q.inG, Q.nt, Q.bop, Q.ite, Q.ix, Q.sl, Q.tl0, Q.rev, Q.disp, Q.call, Q.bi1, Q.mn2, Q.isi, Q.cnt, Q.tupRg, Q.lstRg, Q.lenO, Q.ixO, Q.nil, Q.cons, Q.b1, Q.and2, Q.or2, Q.no, Q.some_, Q.seq, Q.rng1, Q.rng2, Q.enm, Q.s_nil, Q.s_cons, Q.s_set, Q.s_setT, Q.s_newL, Q.s_newD, Q.s_app, Q.s_ext, Q.s_dput, Q.s_expr, Q.s_ret, Q.s_retN, Q.s_ite, Q.s_raise, Q.s_frz, Res.bind, Res.ofO, Out.ofR, retO, entry, slot, truth, List.map_cons, List.map_nil, List.cons_append, List.nil_append, List.getElem?_cons_succ, List.getElem?_cons_zero, e1, e2, e3, Option.map_some]
theorem mix_ok (h : tab (Str.ofString "_law_mix") = some d_law_mix) (c : Int) (p m : Nat) (hp : 0 < p) (hp2 : p ≤ 10000) (hm : 0 < m) : run g tab (k + 1) (Str.ofString "_law_mix") [.int c, .int p, .int m] = .ok (.int (mix c p m)) := by
  rw [run_is h rfl]
  have e1 : binD .Mult (.int c) (.int 48271) = some (.int (c * 48271)) := by
    show (if mulOk c 48271 = true then some (PyData.int (c * 48271)) else none) = _
    rw [if_pos]
    rw [mulOk_iff]
    right
    omega
  have e2 : ∀ z : Int, binD .Mod (.int z) (.int p) = some (.int (z % p)) := fun z => by
    show (if (0 : Int) < p then some (PyData.int (z % p)) else none) = _
    rw [if_pos (by omega)]
  have e3 : ∀ z : Int, binD .Mod (.int z) (.int m) = some (.int (z % m)) := fun z => by
    show (if (0 : Int) < m then some (PyData.int (z % m)) else none) = _
    rw [if_pos (by omega)]
  have e4 : binD .Pow (.int (c * 48271 % p)) (.int 3) = some (.int ((c * 48271 % p) ^ 3)) := by
    show (if powOk (c * 48271 % p) 3 = true then some (PyData.int ((c * 48271 % p) ^ (3 : Int).toNat)) else none) = _
    rw [if_pos]
    · rfl
    · unfold powOk
      rw [decide_eq_true_eq]
      have b1 := Int.emod_lt_of_pos (c * 48271) (show (0 : Int) < p by omega)
      have b2 := Int.emod_nonneg (c * 48271) (show (p : Int) ≠ 0 by omega)
      have b3 : intBits (c * 48271 % p) ≤ 14 := bits_le (by
        have : (2 : Nat) ^ 14 = 16384 := by decide
        omega)
      omega
  have e5 : ((mix c p m : Nat) : Int) = ((c * 48271 % p) ^ 3 % p) % m := by
    unfold mix
    have h2 := Int.emod_nonneg ((c * 48271 % p) ^ 3 % p) (show (m : Int) ≠ 0 by omega)
    omega
  rw [e5]
  simp only [d_law_mix, Q.var, Q.int, Q.neg, Q.str, Q.bl, Q.non, Q.glob, Q.tup, Q.lst, Q.bin, Q.cmp, Q.chain, Q.inG, Q.nt, Q.bop, Q.ite, Q.ix, Q.sl, Q.tl0, Q.rev, Q.disp, Q.call, Q.bi1, Q.mn2, Q.isi, Q.cnt, Q.tupRg, Q.lstRg, Q.lenO, Q.ixO, Q.nil, Q.cons, Q.b1, Q.and2, Q.or2, Q.no, Q.some_, Q.seq, Q.rng1, Q.rng2, Q.enm, Q.s_nil, Q.s_cons, Q.s_set, Q.s_setT, Q.s_newL, Q.s_newD, Q.s_app, Q.s_ext, Q.s_dput, Q.s_expr, Q.s_ret, Q.s_retN, Q.s_ite, Q.s_raise, Q.s_frz, Res.bind, Res.ofO, Out.ofR, retO, entry, slot, truth, List.map_cons, List.map_nil, List.cons_append, List.nil_append, List.getElem?_cons_succ, List.getElem?_cons_zero, e1, e2, e3, e4]
end
end Rh

set_option Elab.async false
set_option linter.all false
set_option maxRecDepth 100000
set_option maxHeartbeats 2000000
/-! What the core code computes: the law's ring, stand, book. -/
namespace Rh
open PySem (PyData Str)
open PySem.Builtin.Int (intBits)
open Cd
/-- the law's defs for its draws -/
structure BaseL0 (tab : Str → Option Df) : Prop where
  cell : tab (Str.ofString "_law_cell") = some d_law_cell
  mix : tab (Str.ofString "_law_mix") = some d_law_mix
  row : tab (Str.ofString "_law_row") = some d_law_row
  view : tab (Str.ofString "_law_view") = some d_law_view
  stands : tab (Str.ofString "_law_stands") = some d_law_stands
  views : tab (Str.ofString "_law_views") = some d_law_views
  many : tab (Str.ofString "_law_many") = some d_law_many
  book : tab (Str.ofString "_law_book") = some d_law_book
/-- and a stand -/
structure BaseL (tab : Str → Option Df) : Prop extends BaseL0 tab where
  stand : tab (Str.ofString "_law_stand") = some d_law_stand
def pairs0 : List (Nat × Nat) := [(3, 2), (4, 2), (5, 2), (3, 3), (4, 3), (3, 1), (6, 2), (4, 2), (5, 3), (7, 2), (3, 4)]
def wide (ns : List Int) : Nat := if mix (cell ns 0 + 7 * (ns.length : Int)) 9871 8 = 3 then 11 else 8
def ring (ns : List Int) (at' : Nat) : Nat × Nat := pairs0.getD (mix (cell ns at') 9973 (wide ns)) (3, 2)
theorem pairs_ok : ∀ q ∈ pairs0, 3 ≤ q.1 ∧ q.1 ≤ 7 ∧ 1 ≤ q.2 ∧ q.2 ≤ 4 := by decide
theorem wide_ok (ns : List Int) : wide ns = 8 ∨ wide ns = 11 := by
  unfold wide
  split
  · exact .inr rfl
  · exact .inl rfl
theorem ring_get (ns : List Int) (at' : Nat) : pairs0[mix (cell ns at') 9973 (wide ns)]? = some (ring ns at') := by
  have h1 : mix (cell ns at') 9973 (wide ns) < 11 := by
    rcases wide_ok ns with h | h
    · rw [h]
      have := mix_lt (cell ns at') 9973 8 (by omega)
      omega
    · rw [h]
      exact mix_lt (cell ns at') 9973 11 (by omega)
  have h2 : mix (cell ns at') 9973 (wide ns) < pairs0.length := h1
  unfold ring
  rw [List.getD_eq_getElem?_getD, List.getElem?_eq_getElem h2]
  rfl
theorem ring_ok (ns : List Int) (at' : Nat) : 3 ≤ (ring ns at').1 ∧ (ring ns at').1 ≤ 7 ∧ 1 ≤ (ring ns at').2 ∧ (ring ns at').2 ≤ 4 := pairs_ok _ (List.mem_of_getElem? (ring_get ns at'))
section
variable {g : Str → Option PyData} {tab : Str → Option Df} {k : Nat}
abbrev pairD (q : Nat × Nat) : PyData := .tuple [.int q.1, .int q.2]
theorem many_ok (B : BaseL0 tab) (ns : List Int) (hl : ns.length ≤ 63) (at' : Nat) : run g tab (k + 2) (Str.ofString "_law_many") [scrD ns, .int at'] = .ok (pairD (ring ns at')) := by
  rw [run_is B.many rfl]
  have c0 := cell_ok (g := g) (k := k) B.cell ns 0
  have c1 := cell_ok (g := g) (k := k) B.cell ns at'
  have m0 := mix_ok (g := g) (k := k) B.mix (cell ns 0 + 7 * (ns.length : Int)) 9871 8 (by omega) (by omega) (by omega)
  have m1 := mix_ok (g := g) (k := k) B.mix (cell ns at') 9973 (wide ns) (by omega) (by omega) (by rcases wide_ok ns with h | h <;> omega)
  have e1 : binD .Mult (.int 7) (.int ((ns.map PyData.int).length : Int)) = some (.int (7 * (ns.length : Int))) := by
    show (if mulOk 7 ((ns.map PyData.int).length : Int) = true then some (PyData.int (7 * ((ns.map PyData.int).length : Int))) else none) = _
    rw [if_pos, List.length_map]
    rw [mulOk_iff]
    left
    omega
  have e2 : bi1D .len (scrD ns) = some (.int ((ns.map PyData.int).length : Int)) := rfl
  have e3 : Rh.exec g (run g tab (k + 1)) (.ite (.cmp .Eq (.call (Str.ofString "_law_mix") (.cons (.bin .Add (.call (Str.ofString "_law_cell") (.cons (.var 0) (.cons (.int 0) .nil))) (.bin .Mult (.int 7) (.bi1 .len (.var 0)))) (.cons (.int 9871) (.cons (.int 8) .nil)))) (.int 3)) [.set 3 (.int 11)] [])
      [some (.sh (scrD ns)), some (.sh (.int at')), some (.sh (.list (pairs0.map pairD))), some (.sh (.int 8))] = .nx [some (.sh (scrD ns)), some (.sh (.int at')), some (.sh (.list (pairs0.map pairD))), some (.sh (.int (wide ns)))] := by
    have c0' : run g tab (k + 1) (Str.ofString "_law_cell") [scrD ns, .int 0] = .ok (.int (cell ns 0)) := c0
    have m0' : run g tab (k + 1) (Str.ofString "_law_mix") [.int (cell ns 0 + 7 * (ns.length : Int)), .int 9871, .int 8] = .ok (.int (mix (cell ns 0 + 7 * (ns.length : Int)) 9871 8)) := m0
    have a0 : binD .Add (.int (cell ns 0)) (.int (7 * (ns.length : Int))) = some (.int (cell ns 0 + 7 * (ns.length : Int))) := rfl
    have e4 : cmpD .Eq (.int (mix (cell ns 0 + 7 * (ns.length : Int)) 9871 8)) (.int 3) = some (decide (mix (cell ns 0 + 7 * (ns.length : Int)) 9871 8 = 3)) := by
      show eqD _ _ = _
      rw [eq_int]
      congr 1
      rw [decide_eq_decide]
      omega
    simp only [Q.var, Q.int, Q.neg, Q.str, Q.bl, Q.non, Q.glob, Q.tup, Q.lst, Q.bin, Q.cmp, Q.chain, Q.inG, Q.nt, Q.bop, Q.ite, Q.ix, Q.sl, Q.tl0, Q.rev, Q.disp, Q.call, Q.bi1, Q.mn2, Q.isi, Q.cnt, Q.tupRg, Q.lstRg, Q.lenO, Q.ixO, Q.nil, Q.cons, Q.b1, Q.and2, Q.or2, Q.no, Q.some_, Q.seq, Q.rng1, Q.rng2, Q.enm, Q.s_nil, Q.s_cons, Q.s_set, Q.s_setT, Q.s_newL, Q.s_newD, Q.s_app, Q.s_ext, Q.s_dput, Q.s_expr, Q.s_ret, Q.s_retN, Q.s_ite, Q.s_raise, Q.s_frz, Res.bind, Res.ofO, Out.ofR, retO, entry, slot, truth, List.getElem?_cons_succ, List.getElem?_cons_zero, e2, e1, c0', a0, m0', e4, Option.map_some]
    unfold wide
    by_cases hw : mix (cell ns 0 + 7 * (ns.length : Int)) 9871 8 = 3
    · simp [hw]
    · simp [hw]
  show retO (match Rh.exec g (run g tab (k + 1)) _ [some (.sh (scrD ns)), some (.sh (.int at')), some (.sh (.list (pairs0.map pairD))), some (.sh (.int 8))] with | .nx δ' => _ | o => o) = _
  rw [e3]
  have e5 : ixD (.list (pairs0.map pairD)) (.int (mix (cell ns at') 9973 (wide ns))) = some (pairD (ring ns at')) := by
    refine L2.atI_nat (xs := pairs0.map pairD) ?_
    rw [List.getElem?_map, ring_get]
    rfl
  show retO (match Out.ofR (Res.bind (Res.bind (Res.bind (run g tab (k + 1) (Str.ofString "_law_cell") [scrD ns, .int at']) _) _) _) _ with | .nx δ' => _ | o => o) = _
  rw [c1]
  show retO (match Out.ofR (Res.bind (run g tab (k + 1) (Str.ofString "_law_mix") [.int (cell ns at'), .int 9973, .int (wide ns)]) fun y => Res.ofO (ixD (.list (pairs0.map pairD)) y)) _ with | .nx δ' => _ | o => o) = _
  have m1' : run g tab (k + 1) (Str.ofString "_law_mix") [.int (cell ns at'), .int 9973, .int (wide ns)] = .ok (.int (mix (cell ns at') 9973 (wide ns))) := m1
  rw [m1']
  show retO (match Out.ofR (Res.ofO (ixD (.list (pairs0.map pairD)) (.int (mix (cell ns at') 9973 (wide ns))))) _ with | .nx δ' => _ | o => o) = _
  rw [e5]
  rfl
/-- bits of the script's numbers -/
def Few (ns : List Int) : Prop := ∀ z ∈ ns, intBits z ≤ 1048576
theorem cell_bits {ns : List Int} (h : Few ns) (i : Nat) : intBits (cell ns i) ≤ 1048576 := by
  unfold cell
  by_cases hi : i < ns.length
  · rw [List.getD_eq_getElem?_getD, List.getElem?_eq_getElem hi]
    exact h _ (List.getElem_mem hi)
  · rw [List.getD_eq_getElem?_getD, List.getElem?_eq_none (by omega)]
    exact Nat.zero_le _
theorem sq_ok {x : Int} (h : intBits x ≤ 1048577) : binD .Pow (.int x) (.int 2) = some (.int (x ^ 2)) := by
  show (if powOk x 2 = true then some (PyData.int (x ^ (2 : Int).toNat)) else none) = _
  rw [if_pos]
  · rfl
  · unfold powOk
    rw [decide_eq_true_eq]
    refine ⟨by omega, ?_⟩
    have : (2 : Int) ^ 27 = 134217728 := by decide
    omega
def drawn (ns : List Int) (at' j p m : Nat) : Nat := mix ((cell ns at' + 41 * (j : Int)) ^ 2) p m
theorem mul41 (j : Nat) : binD .Mult (.int 41) (.int j) = some (.int (41 * (j : Int))) := by
  show (if mulOk 41 (j : Int) = true then some (PyData.int (41 * (j : Int))) else none) = _
  rw [if_pos]
  rw [mulOk_iff]
  left
  omega
theorem add_int (a b : Int) : binD .Add (.int a) (.int b) = some (.int (a + b)) := rfl
def standOf (ns : List Int) (at' n m : Nat) : List Int := (List.range m).map fun j => (drawn ns at' j 9941 n : Int)
theorem stand_is (ns : List Int) (at' n m : Nat) (hn : 0 < n) (h1 : 1 ≤ m) (h2 : m ≤ 4) : IsS n (standOf ns at' n m) := by
  have hl : (standOf ns at' n m).length = m := by
    unfold standOf
    rw [List.length_map, List.length_range]
  refine ⟨by omega, by omega, fun p hp => ?_⟩
  obtain ⟨j, _, rfl⟩ := List.mem_map.mp hp
  have := mix_lt ((cell ns at' + 41 * (j : Int)) ^ 2) 9941 n hn
  unfold drawn
  omega
theorem stand_ok (B : BaseL tab) {ns : List Int} (hf : Few ns) (at' n m : Nat) (hn : 0 < n) (hm : m ≤ 4) : run g tab (k + 2) (Str.ofString "_law_stand") [scrD ns, .int at', .int n, .int m] = .ok (iT (standOf ns at' n m)) := by
  rw [run_is B.stand rfl]
  have key : ev g (run g tab (k + 1)) (.lc (.one 4) (.rng1 (.var 3)) .no (.call (Str.ofString "_law_mix") (.cons (.bin .Pow (.bin .Add (.call (Str.ofString "_law_cell") (.cons (.var 0) (.cons (.var 1) .nil))) (.bin .Mult (.int 41) (.var 4))) (.int 2)) (.cons (.int 9941) (.cons (.var 2) .nil))))) [some (.sh (scrD ns)), some (.sh (.int at')), some (.sh (.int n)), some (.sh (.int m)), none]
      = .ok (.list ((rangeD 0 m).map fun x => match x with | .int j => .int (drawn ns at' j.toNat 9941 n) | _ => .none)) := by
    refine ev_lc_map _ (xs := rangeD 0 m) ?_ (by rw [range_len]; show m ≤ 1000000; omega) fun x hx => ?_
    · show (if small m = true then Res.ok (rangeD 0 m) else .stuck) = _
      rw [if_pos (small_of (by omega))]
    · obtain ⟨j, hj, rfl⟩ := List.mem_map.mp hx
      rw [List.mem_range] at hj
      refine ⟨_, rfl, ?_⟩
      have c1 := cell_ok (g := g) (k := k) B.cell ns at'
      have hz : (0 + (j : Int)) = (j : Int) := by omega
      rw [hz]
      have sq := sq_ok (x := cell ns at' + 41 * (j : Int)) (bits_add (cell_bits hf at') (by omega) (by
        have : (2 : Nat) ^ 20 = 1048576 := by decide
        omega))
      have mx : run g tab (k + 1) (Str.ofString "_law_mix") [.int ((cell ns at' + 41 * (j : Int)) ^ 2), .int 9941, .int n] = .ok (.int (mix ((cell ns at' + 41 * (j : Int)) ^ 2) 9941 n)) := mix_ok (g := g) (k := k) B.mix _ 9941 n (by omega) (by omega) hn
      simp only [Q.call, Q.cons, Q.nil, Q.bin, Q.var, Q.int, wipeTg, List.set_cons_succ, List.set_cons_zero, List.getElem?_cons_succ, List.getElem?_cons_zero, Res.bind, c1, mul41, Res.ofO, add_int, sq, mx]
      rfl
  have e : (rangeD 0 m).map (fun x => match x with | .int j => PyData.int (drawn ns at' j.toNat 9941 n) | _ => .none) = (standOf ns at' n m).map .int := by
    unfold rangeD standOf
    rw [List.map_map, List.map_map]
    have z : ((m : Int) - 0).toNat = m := by omega
    rw [z]
    refine List.map_congr_left fun j _ => ?_
    simp
  rw [e] at key
  show retO (Rh.execs g (run g tab (k + 1)) [.ret (.bi1 .tuple _)] _) = _
  rw [Q.s_cons, Q.s_ret, Q.bi1]
  show retO (match Out.ofR (Res.bind (ev g (run g tab (k + 1)) _ [some (.sh (scrD ns)), some (.sh (.int at')), some (.sh (.int n)), some (.sh (.int m)), none]) _) _ with | .nx δ' => _ | o => o) = _
  rw [key]
  rfl
end
end Rh

set_option Elab.async false
set_option linter.all false
set_option maxRecDepth 100000
set_option maxHeartbeats 2000000
/-! What the core code computes: the law's book. -/
namespace Rh
open PySem (PyData Str)
open PySem.Builtin.Int (intBits)
open Cd
def sightL : List String := ["all", "many", "some", "all"]
def sightOf (ns : List Int) (at' : Nat) : String := sightL.getD (mix (cell ns at') 9967 4) "all"
theorem sight_get (ns : List Int) (at' : Nat) : sightL[mix (cell ns at') 9967 4]? = some (sightOf ns at') := by
  have h : mix (cell ns at') 9967 4 < sightL.length := mix_lt _ _ 4 (by omega)
  unfold sightOf
  rw [List.getD_eq_getElem?_getD, List.getElem?_eq_getElem h]
  rfl
theorem sight_in (ns : List Int) (at' : Nat) : sightOf ns at' ∈ sights := by
  have h := List.mem_of_getElem? (sight_get ns at')
  have h2 : ∀ s ∈ sightL, s ∈ sights := by decide
  exact h2 _ h
def wayL : List String := ["on", "back", "on"]
def wayOf (w : Nat) : String := wayL.getD (w - 1) "on"
theorem way_get {w : Nat} (h1 : 0 < w) (h2 : w < 4) : wayL[w - 1]? = some (wayOf w) := by
  have h : w - 1 < wayL.length := by
    show w - 1 < 3
    omega
  unfold wayOf
  rw [List.getD_eq_getElem?_getD, List.getElem?_eq_getElem h]
  rfl
theorem way_in {w : Nat} (h1 : 0 < w) (h2 : w < 4) : wayOf w = "on" ∨ wayOf w = "back" := by
  have h := List.mem_of_getElem? (way_get h1 h2)
  have h3 : ∀ s ∈ wayL, s = "on" ∨ s = "back" := by decide
  exact h3 _ h
/-- the rules from the i-th view on -/
def rulesFrom (ns : List Int) (at' : Nat) : Nat → List (List Int) → List (List Int × String)
  | _, [] => []
  | i, v :: r => if 0 < drawn ns (at' + 1) i 9949 4 then (v, wayOf (drawn ns (at' + 1) i 9949 4)) :: rulesFrom ns at' (i + 1) r else rulesFrom ns at' (i + 1) r
theorem rules_mem (ns : List Int) (at' : Nat) : ∀ (vs : List (List Int)) (i : Nat), ∀ r ∈ rulesFrom ns at' i vs, r.1 ∈ vs ∧ (r.2 = "on" ∨ r.2 = "back")
  | [], i, r, h => by cases h
  | v :: vs, i, r, h => by
    unfold rulesFrom at h
    split at h
    · rename_i hd
      rcases List.mem_cons.mp h with e | h
      · subst e
        exact ⟨List.mem_cons_self, way_in hd (mix_lt _ _ 4 (by omega))⟩
      · obtain ⟨h1, h2⟩ := rules_mem ns at' vs (i + 1) r h
        exact ⟨List.mem_cons_of_mem _ h1, h2⟩
    · obtain ⟨h1, h2⟩ := rules_mem ns at' vs (i + 1) r h
      exact ⟨List.mem_cons_of_mem _ h1, h2⟩
theorem rules_rise (ns : List Int) (at' : Nat) : ∀ (vs : List (List Int)) (i : Nat), vs.Pairwise (fun a b => a < b) → (rulesFrom ns at' i vs).Pairwise fun a b => a.1 < b.1
  | [], i, _ => List.Pairwise.nil
  | v :: vs, i, h => by
    rw [List.pairwise_cons] at h
    unfold rulesFrom
    split
    · rw [List.pairwise_cons]
      exact ⟨fun r hr => h.1 _ (rules_mem ns at' vs (i + 1) r hr).1, rules_rise ns at' vs (i + 1) h.2⟩
    · exact rules_rise ns at' vs (i + 1) h.2
theorem rules_len (ns : List Int) (at' : Nat) : ∀ (vs : List (List Int)) (i : Nat), (rulesFrom ns at' i vs).length ≤ vs.length
  | [], i => Nat.le_refl _
  | v :: vs, i => by
    have := rules_len ns at' vs (i + 1)
    unfold rulesFrom
    split
    · rw [List.length_cons, List.length_cons]
      omega
    · rw [List.length_cons]
      omega
def rulesOf (ns : List Int) (at' : Nat) : List (List Int × String) := (rulesFrom ns at' 0 (viewsL (ring ns at').1 (sightOf ns at') (ring ns at').2)).take 40
theorem book_is (ns : List Int) (at' : Nat) : IsB (ring ns at').1 (sightOf ns at') (rulesOf ns at') := by
  obtain ⟨h1, h2, h3, h4⟩ := ring_ok ns at'
  refine ⟨h1, h2, sight_in ns at', fun r hr => ?_, fun r hr => ?_, ?_, ?_⟩
  · exact views_is _ _ _ h4 _ (rules_mem ns at' _ 0 r (List.mem_of_mem_take hr)).1
  · exact (rules_mem ns at' _ 0 r (List.mem_of_mem_take hr)).2
  · exact (rules_rise ns at' _ 0 (views_rise _ _ _)).sublist (List.take_sublist _ _)
  · unfold rulesOf
    rw [List.length_take]
    omega
theorem views_len (n : Nat) (s : String) (m : Nat) (hn : n ≤ 7) (hm : m ≤ 4) : (viewsL n s m).length ≤ 9604 := by
  unfold viewsL
  rw [(List.mergeSort_perm _ _).length_eq]
  have hl := vks_len n s 4 (allSt n m) [] fun st hst => by
    rw [((all_mem n m st).mp hst).1]
    exact hm
  have z : n ^ m ≤ 2401 := pow_le hn hm
  rw [all_len, List.length_nil] at hl
  omega
section
variable {g : Str → Option PyData} {tab : Str → Option Df} {k : Nat}
abbrev bookBody : List DS := [.set 8 (.call (Str.ofString "_law_mix") (.cons (.bin .Pow (.bin .Add (.call (Str.ofString "_law_cell") (.cons (.var 0) (.cons (.bin .Add (.var 1) (.int 1)) .nil))) (.bin .Mult (.int 41) (.var 6))) (.int 2)) (.cons (.int 9949) (.cons (.int 4) .nil)))), .ite (.cmp .Gt (.var 8) (.int 0)) [.app 3 (.tup (.cons (.var 7) (.cons (.ix (.lst (.cons (.str (Str.ofString "on")) (.cons (.str (Str.ofString "back")) (.cons (.str (Str.ofString "on")) .nil)))) (.bin .Sub (.var 8) (.int 1))) .nil)))] []]
theorem book_body (B : BaseL0 tab) {ns : List Int} (hf : Few ns) (at' : Nat) (a b c : Option Sl) (acc : List PyData) (ha : acc.length < lim) (i : Nat) (hi : i ≤ 10000) (v : List Int) (o : Option Sl) :
    Rh.execs g (run g tab (k + 1)) bookBody [some (.sh (scrD ns)), some (.sh (.int at')), a, some (.own (.list acc)), b, c, some (.sh (.int i)), some (.sh (iT v)), o]
      = .nx [some (.sh (scrD ns)), some (.sh (.int at')), a, some (.own (.list (if 0 < drawn ns (at' + 1) i 9949 4 then acc ++ [pyRule (v, wayOf (drawn ns (at' + 1) i 9949 4))] else acc))), b, c, some (.sh (.int i)), some (.sh (iT v)), some (.sh (.int (drawn ns (at' + 1) i 9949 4)))] := by
  have c1 : run g tab (k + 1) (Str.ofString "_law_cell") [scrD ns, .int ((at' : Int) + 1)] = .ok (.int (cell ns (at' + 1))) := cell_ok (g := g) (k := k) B.cell ns (at' + 1)
  have sq := sq_ok (x := cell ns (at' + 1) + 41 * (i : Int)) (bits_add (cell_bits hf (at' + 1)) (by omega) (by
    have : (2 : Nat) ^ 20 = 1048576 := by decide
    omega))
  have mx : run g tab (k + 1) (Str.ofString "_law_mix") [.int ((cell ns (at' + 1) + 41 * (i : Int)) ^ 2), .int 9949, .int 4] = .ok (.int (drawn ns (at' + 1) i 9949 4)) := mix_ok (g := g) (k := k) B.mix _ 9949 4 (by omega) (by omega) (by omega)
  have e1 : Rh.exec g (run g tab (k + 1)) (.set 8 (.call (Str.ofString "_law_mix") (.cons (.bin .Pow (.bin .Add (.call (Str.ofString "_law_cell") (.cons (.var 0) (.cons (.bin .Add (.var 1) (.int 1)) .nil))) (.bin .Mult (.int 41) (.var 6))) (.int 2)) (.cons (.int 9949) (.cons (.int 4) .nil))))) [some (.sh (scrD ns)), some (.sh (.int at')), a, some (.own (.list acc)), b, c, some (.sh (.int i)), some (.sh (iT v)), o]
      = .nx [some (.sh (scrD ns)), some (.sh (.int at')), a, some (.own (.list acc)), b, c, some (.sh (.int i)), some (.sh (iT v)), some (.sh (.int (drawn ns (at' + 1) i 9949 4)))] := by
    simp only [Q.s_set, Q.call, Q.cons, Q.nil, Q.bin, Q.var, Q.int, List.getElem?_cons_succ, List.getElem?_cons_zero, Res.bind, c1, mul41, Res.ofO, add_int, sq, mx, Out.ofR, slot, List.set_cons_succ, List.set_cons_zero]
  show (match Rh.exec g (run g tab (k + 1)) _ [some (.sh (scrD ns)), some (.sh (.int at')), a, some (.own (.list acc)), b, c, some (.sh (.int i)), some (.sh (iT v)), o] with | .nx δ' => _ | o => o) = _
  rw [e1]
  have hlt : drawn ns (at' + 1) i 9949 4 < 4 := mix_lt _ _ 4 (by omega)
  generalize drawn ns (at' + 1) i 9949 4 = w at *
  by_cases hw : 0 < w
  · have e2 : cmpD .Gt (.int w) (.int 0) = some true := by
      simp only [cmpD, Option.some.injEq, decide_eq_true_eq]
      omega
    have e3 : binD .Sub (.int w) (.int 1) = some (.int ((w - 1 : Nat) : Int)) := by
      simp only [binD, Option.some.injEq, PyData.int.injEq]
      omega
    have e4 : ixD (.list [.str (Str.ofString "on"), .str (Str.ofString "back"), .str (Str.ofString "on")]) (.int ((w - 1 : Nat) : Int)) = some (.str (Str.ofString (wayOf w))) := by
      refine L2.atI_nat (xs := wayL.map fun s => PyData.str (Str.ofString s)) ?_
      rw [List.getElem?_map, way_get hw hlt]
      rfl
    have et : ev g (run g tab (k + 1)) (.tup (.cons (.var 7) (.cons (.ix (.lst (.cons (.str (Str.ofString "on")) (.cons (.str (Str.ofString "back")) (.cons (.str (Str.ofString "on")) .nil)))) (.bin .Sub (.var 8) (.int 1))) .nil))) [some (.sh (scrD ns)), some (.sh (.int at')), a, some (.own (.list acc)), b, c, some (.sh (.int i)), some (.sh (iT v)), some (.sh (.int w))] = .ok (pyRule (v, wayOf w)) := by
      have el : ev g (run g tab (k + 1)) (.lst (.cons (.str (Str.ofString "on")) (.cons (.str (Str.ofString "back")) (.cons (.str (Str.ofString "on")) .nil)))) [some (.sh (scrD ns)), some (.sh (.int at')), a, some (.own (.list acc)), b, c, some (.sh (.int i)), some (.sh (iT v)), some (.sh (.int w))] = .ok (.list [.str (Str.ofString "on"), .str (Str.ofString "back"), .str (Str.ofString "on")]) := rfl
      simp only [Q.tup, Q.cons, Q.nil, Q.ix, el, Q.bin, Q.var, Q.int, List.getElem?_cons_succ, List.getElem?_cons_zero, Res.bind, Res.ofO, e3, e4]
      rfl
    simp only [Q.s_cons, Q.s_ite, Q.s_app, Q.s_nil, Q.cmp, Q.var, Q.int, List.getElem?_cons_succ, List.getElem?_cons_zero, Res.bind, Res.ofO, e2, Option.map_some, Out.ofR, truth, et, hw, if_true, ha, slot, List.set_cons_succ, List.set_cons_zero]
  · have e2 : cmpD .Gt (.int w) (.int 0) = some false := by
      simp only [cmpD, Option.some.injEq, decide_eq_false_iff_not]
      omega
    simp only [Q.var, Q.int, Q.neg, Q.str, Q.bl, Q.non, Q.glob, Q.tup, Q.lst, Q.bin, Q.cmp, Q.chain, Q.inG, Q.nt, Q.bop, Q.ite, Q.ix, Q.sl, Q.tl0, Q.rev, Q.disp, Q.call, Q.bi1, Q.mn2, Q.isi, Q.cnt, Q.tupRg, Q.lstRg, Q.lenO, Q.ixO, Q.nil, Q.cons, Q.b1, Q.and2, Q.or2, Q.no, Q.some_, Q.seq, Q.rng1, Q.rng2, Q.enm, Q.s_nil, Q.s_cons, Q.s_set, Q.s_setT, Q.s_newL, Q.s_newD, Q.s_app, Q.s_ext, Q.s_dput, Q.s_expr, Q.s_ret, Q.s_retN, Q.s_ite, Q.s_raise, Q.s_frz, Res.bind, Res.ofO, Out.ofR, retO, entry, slot, truth, List.getElem?_cons_succ, List.getElem?_cons_zero, e2, Option.map_some, hw, if_false]
theorem book_loop (B : BaseL0 tab) {ns : List Int} (hf : Few ns) (at' : Nat) (a b c : Option Sl) : ∀ (vs : List (List Int)) (i : Nat) (acc : List PyData) (o o2 o3 : Option Sl), i + vs.length ≤ 10000 → acc.length + vs.length < lim →
    ∃ p p2 p3, forL (Rh.execs g (run g tab (k + 1)) bookBody) (.many [6, 7]) (enumD i (vs.map iT)) [some (.sh (scrD ns)), some (.sh (.int at')), a, some (.own (.list acc)), b, c, o, o2, o3]
      = .nx [some (.sh (scrD ns)), some (.sh (.int at')), a, some (.own (.list (acc ++ (rulesFrom ns at' i vs).map pyRule))), b, c, p, p2, p3]
  | [], i, acc, o, o2, o3, _, _ => ⟨o, o2, o3, by simp [enumD, forL, rulesFrom]⟩
  | v :: vs, i, acc, o, o2, o3, hi, hl => by
    rw [List.length_cons] at hi hl
    have e1 := book_body (g := g) (k := k) B hf at' a b c acc (by omega) i (by omega) v o3
    obtain ⟨p, p2, p3, ih⟩ := book_loop B hf at' a b c vs (i + 1) (if 0 < drawn ns (at' + 1) i 9949 4 then acc ++ [pyRule (v, wayOf (drawn ns (at' + 1) i 9949 4))] else acc) (some (.sh (.int i))) (some (.sh (iT v))) (some (.sh (.int (drawn ns (at' + 1) i 9949 4)))) (by omega) (by
      split
      · rw [List.length_append, List.length_singleton]
        omega
      · omega)
    refine ⟨p, p2, p3, ?_⟩
    have e2 : acc ++ (rulesFrom ns at' i (v :: vs)).map pyRule = (if 0 < drawn ns (at' + 1) i 9949 4 then acc ++ [pyRule (v, wayOf (drawn ns (at' + 1) i 9949 4))] else acc) ++ (rulesFrom ns at' (i + 1) vs).map pyRule := by
      rw [rulesFrom]
      split
      · rw [List.map_cons, List.append_cons]
      · rfl
    rw [e2, ← ih]
    show (match Rh.execs g (run g tab (k + 1)) bookBody [some (.sh (scrD ns)), some (.sh (.int at')), a, some (.own (.list acc)), b, c, some (.sh (.int i)), some (.sh (iT v)), o3] with | .nx δ2 => _ | .ct δ2 => _ | .bk δ2 => _ | o => o) = _
    rw [e1]
theorem book_ok (B : BaseL0 tab) {ns : List Int} (hl : ns.length ≤ 63) (hf : Few ns) (at' : Nat) : run g tab (k + 4) (Str.ofString "_law_book") [scrD ns, .int at'] = .ok (bookT (ring ns at').1 (sightOf ns at') (rulesOf ns at')) := by
  rw [run_is B.book rfl]
  obtain ⟨r1, r2, r3, r4⟩ := ring_ok ns at'
  have m1 := many_ok (g := g) (k := k + 1) B ns hl at'
  have c1 := cell_ok (g := g) (k := k + 2) B.cell ns at'
  have x1 : run g tab (k + 3) (Str.ofString "_law_mix") [.int (cell ns at'), .int 9967, .int 4] = .ok (.int (mix (cell ns at') 9967 4)) := mix_ok (g := g) (k := k + 2) B.mix (cell ns at') 9967 4 (by omega) (by omega) (by omega)
  have v1 := law_views_ok (g := g) (k := k) B.row B.view B.stands B.views (ring ns at').1 (ring ns at').2 (by omega) r2 r4 (sightOf ns at') (sight_in ns at')
  have vl := views_len (ring ns at').1 (sightOf ns at') (ring ns at').2 r2 r4
  obtain ⟨p, p2, p3, e⟩ := book_loop (g := g) (k := k + 2) B hf at' (some (.sh (.str (Str.ofString (sightOf ns at'))))) (some (.sh (.int (ring ns at').1))) (some (.sh (.int (ring ns at').2))) (viewsL (ring ns at').1 (sightOf ns at') (ring ns at').2) 0 [] none none none (by omega) (by show 0 + _ < 1000000; omega)
  have s1 : ixD (.list [.str (Str.ofString "all"), .str (Str.ofString "many"), .str (Str.ofString "some"), .str (Str.ofString "all")]) (.int (mix (cell ns at') 9967 4)) = some (.str (Str.ofString (sightOf ns at'))) := by
    refine L2.atI_nat (xs := sightL.map fun s => PyData.str (Str.ofString s)) ?_
    rw [List.getElem?_map, sight_get]
    rfl
  show retO (match Out.ofR (run g tab (k + 3) (Str.ofString "_law_many") [scrD ns, .int at']) _ with | .nx δ' => _ | o => o) = _
  rw [m1]
  show retO (match Out.ofR (Res.bind (Res.bind (Res.bind (run g tab (k + 3) (Str.ofString "_law_cell") [scrD ns, .int at']) _) _) _) _ with | .nx δ' => _ | o => o) = _
  rw [c1]
  show retO (match Out.ofR (Res.bind (run g tab (k + 3) (Str.ofString "_law_mix") [.int (cell ns at'), .int 9967, .int 4]) fun y => Res.ofO (ixD (.list [.str (Str.ofString "all"), .str (Str.ofString "many"), .str (Str.ofString "some"), .str (Str.ofString "all")]) y)) _ with | .nx δ' => _ | o => o) = _
  rw [x1]
  show retO (match Out.ofR (Res.ofO (ixD _ (.int (mix (cell ns at') 9967 4)))) _ with | .nx δ' => _ | o => o) = _
  rw [s1]
  show retO (match Out.ofR (Res.bind (run g tab (k + 3) (Str.ofString "_law_views") [.int (ring ns at').1, .str (Str.ofString (sightOf ns at')), .int (ring ns at').2]) _) _ with | .nx δ' => _ | o => o) = _
  rw [v1]
  show retO (match forL (Rh.execs g (run g tab (k + 3)) bookBody) (.many [6, 7]) (((viewsL (ring ns at').1 (sightOf ns at') (ring ns at').2).map iT).mapIdx fun k x => .tuple [.int k, x]) [some (.sh (scrD ns)), some (.sh (.int at')), some (.sh (.str (Str.ofString (sightOf ns at')))), some (.own (.list [])), some (.sh (.int (ring ns at').1)), some (.sh (.int (ring ns at').2)), none, none, none] with | .nx δ' => _ | o => o) = _
  rw [enum_zero, e, List.nil_append]
  have ec : cut ((rulesFrom ns at' 0 (viewsL (ring ns at').1 (sightOf ns at') (ring ns at').2)).map pyRule) none (some 40) = (rulesOf ns at').map pyRule := by
    rw [show (40 : Int) = ((40 : Nat) : Int) from rfl, cut_to, ← List.map_take]
    rfl
  show Res.ok (PyData.tuple [.int (ring ns at').1, .str (Str.ofString (sightOf ns at')), .tuple (cut ((rulesFrom ns at' 0 (viewsL (ring ns at').1 (sightOf ns at') (ring ns at').2)).map pyRule) none (some 40))]) = _
  rw [ec]
end
end Rh

set_option Elab.async false
set_option linter.all false
set_option maxRecDepth 100000
set_option maxHeartbeats 2000000
/-! Law k03, plain. -/
namespace Rh
open PySem (PyData Str)
open PySem.Builtin.Int (intBits)
open Cd
theorem shaped_row (v : List Int) : PySem.SeqAt.shaped (iT v) = true := by
  simp [PySem.SeqAt.shaped, PyData.canLay0, lay_ints, PyData.depth, PySem.W.depth_ints]
theorem eq_row (a b : List Int) : eqD (iT a) (iT b) = some (decide (a = b)) := by
  unfold eqD
  rw [shaped_row, shaped_row, eqv_row]
  rfl
theorem lay_rows : ∀ L : List (List Int), PyData.canLayAll0 (L.map iT) = true
  | [] => by simp [PyData.canLayAll0]
  | v :: r => by
    rw [List.map_cons, PyData.canLayAll0, lay_rows r]
    simp [PyData.canLay0, lay_ints]
theorem depth_rows : ∀ L : List (List Int), PyData.depthAll (L.map iT) ≤ 1
  | [] => by simp [PyData.depthAll]
  | v :: r => by
    have := depth_rows r
    rw [List.map_cons, PyData.depthAll]
    have e : PyData.depth (iT v) = 1 := by simp [PyData.depth, PySem.W.depth_ints]
    rw [e]
    omega
theorem shaped_rows (L : List (List Int)) : PySem.SeqAt.shaped (.list (L.map iT)) = true := by
  have := depth_rows L
  simp [PySem.SeqAt.shaped, PyData.canLay0, lay_rows, PyData.depth]
  omega
theorem eqv_lists : ∀ L M : List (List Int), PyData.eqvAll (L.map iT) (M.map iT) = decide (L = M)
  | [], [] => by simp [PyData.eqvAll]
  | [], _ :: _ => by simp [PyData.eqvAll]
  | _ :: _, [] => by simp [PyData.eqvAll]
  | a :: L, b :: M => by
    rw [List.map_cons, List.map_cons, PyData.eqvAll, eqv_row, eqv_lists L M, Bool.eq_iff_iff]
    simp
theorem eq_rows (L M : List (List Int)) : eqD (.list (L.map iT)) (.list (M.map iT)) = some (decide (L = M)) := by
  unfold eqD
  rw [shaped_rows, shaped_rows]
  simp [PyData.eqv, eqv_lists]
theorem in_rows (w : List Int) (L : List (List Int)) (h : w ∈ L) : inD (iT w) (L.map iT) = some true := by
  unfold inD
  rw [shaped_row, shaped_rows]
  simp only [Bool.and_self, if_true, Option.some.injEq]
  rw [List.any_eq_true]
  exact ⟨iT w, List.mem_map.mpr ⟨w, h, rfl⟩, by rw [eqv_row]; simp⟩
/-! ### the mirrored ring -/
def mir (n : Nat) (p : Int) : Int := ((n : Int) - p) % n
theorem mir_range (n : Nat) (hn : 0 < n) (p : Int) : 0 ≤ mir n p ∧ mir n p < n := ⟨Int.emod_nonneg _ (by omega), Int.emod_lt_of_pos _ (by omega)⟩
theorem mir_mir (n : Nat) (hn : 0 < n) (p : Int) (h : 0 ≤ p ∧ p < n) : mir n (mir n p) = p := by
  unfold mir
  by_cases hp : p = 0
  · subst hp
    rw [Int.sub_zero, Int.emod_self, Int.sub_zero, Int.emod_self]
  · rw [Int.emod_eq_of_lt (a := (n : Int) - p) (by omega) (by omega), show (n : Int) - ((n : Int) - p) = p by omega]
    exact Int.emod_eq_of_lt h.1 h.2
theorem mir_count (n : Nat) (hn : 0 < n) (st : List Int) (hr : ∀ p ∈ st, 0 ≤ p ∧ p < (n : Int)) (c : Int) (hc : 0 ≤ c ∧ c < (n : Int)) : (st.map (mir n)).count c = st.count (mir n c) := by
  induction st with
  | nil => rfl
  | cons x r ih =>
    rw [List.map_cons, List.count_cons, List.count_cons, ih fun p hp => hr p (List.mem_cons_of_mem _ hp)]
    have hx := hr x List.mem_cons_self
    congr 1
    by_cases e : mir n x = c
    · have e2 : x = mir n c := by rw [← e, mir_mir n hn x hx]
      rw [if_pos (by rw [e]; exact beq_self_eq_true c), if_pos (by rw [e2]; exact beq_self_eq_true _)]
    · have e2 : ¬ x = mir n c := fun z => e (by rw [z, mir_mir n hn c hc])
      rw [if_neg (by simpa using e), if_neg (by simpa using e2)]
theorem mir_seen (n : Nat) (hn : 0 < n) (s : String) (st : List Int) (hr : ∀ p ∈ st, 0 ≤ p ∧ p < (n : Int)) (p : Int) : seenL n s (st.map (mir n)) (mir n p) 1 = turned (seenL n s st p 1) := by
  rw [← seen_back n hn]
  unfold seenL
  refine List.map_congr_left fun f _ => ?_
  rw [mir_count n hn st hr _ ⟨Int.emod_nonneg _ (by omega), Int.emod_lt_of_pos _ (by omega)⟩]
  have e : mir n ((mir n p + 1 * (f : Int)) % n) = (p + -1 * (f : Int)) % n := by
    unfold mir
    rw [Int.sub_emod, Int.emod_emod, ← Int.sub_emod]
    have e1 : ((n : Int) - (((n : Int) - p) % n + 1 * (f : Int))) % n = ((n : Int) - (((n : Int) - p) + 1 * (f : Int))) % n := by
      rw [Int.sub_emod, Int.emod_add_emod, ← Int.sub_emod]
    rw [e1]
    congr 1
    omega
  rw [e]
theorem mir_view (n : Nat) (hn : 0 < n) (s : String) (st : List Int) (hr : ∀ p ∈ st, 0 ≤ p ∧ p < (n : Int)) (p : Int) : viewL n s (st.map (mir n)) (mir n p) = viewL n s st p := by
  unfold viewL
  rw [mir_seen n hn s st hr p, turned_turned]
  generalize seenL n s st p 1 = r
  rcases row_tri r (turned r) with z | z | z
  · rw [if_pos z, if_neg (List.lt_asymm z)]
  · rw [← z]
  · rw [if_neg (List.lt_asymm z), if_pos z]
section
variable {g : Str → Option PyData} {tab : Str → Option Df} {k : Nat}
/-- what k03 calls, too -/
structure BaseK3 (g : Str → Option PyData) (tab : Str → Option Df) : Prop extends BaseV g tab where
  longer : tab (Str.ofString "longer") = some d_longer
  all_stands : tab (Str.ofString "all_stands") = some d_all_stands
  views_of : tab (Str.ofString "views_of") = some d_views_of
  views : tab (Str.ofString "views") = some d_views
  view : tab (Str.ofString "view") = some d_view
theorem views_fn_ok (B : BaseK3 g tab) {n m : Nat} {s : String} (h1 : 3 ≤ n) (h2 : n ≤ 7) (hs : s ∈ sights) (h3 : 1 ≤ m) (h4 : m ≤ 4) : run g tab (k + 5) (Str.ofString "views") [.int n, .str (Str.ofString s), .int m] = .ok (.list ((viewsL n s m).map iT)) := by
  rw [run_is B.views rfl]
  have w1 : run g tab (k + 4) (Str.ofString "is_within") [.int n, .int 3, .int 7] = .ok (.bool true) := by
    rw [is_within_ok (k := k + 3) B.is_within _ _ _ fun q z => by cases z]
    have z : within (.int n) 3 7 = true := by
      simp only [within, Bool.and_eq_true, decide_eq_true_eq]
      omega
    rw [z]
  have w2 : run g tab (k + 4) (Str.ofString "is_within") [.int m, .int 1, .int 4] = .ok (.bool true) := by
    rw [is_within_ok (k := k + 3) B.is_within _ _ _ fun q z => by cases z]
    have z : within (.int m) 1 4 = true := by
      simp only [within, Bool.and_eq_true, decide_eq_true_eq]
      omega
    rw [z]
  have w3 := views_of_ok (g := g) (k := k) B.told_apart B.seen_along B.turned_view B.view_at B.longer B.all_stands B.views_of n m (by omega) h2 h4 s
  have s1 := in_sights s hs
  simp [d_views, Q.var, Q.int, Q.neg, Q.str, Q.bl, Q.non, Q.glob, Q.tup, Q.lst, Q.bin, Q.cmp, Q.chain, Q.inG, Q.nt, Q.bop, Q.ite, Q.ix, Q.sl, Q.tl0, Q.rev, Q.disp, Q.call, Q.bi1, Q.mn2, Q.isi, Q.cnt, Q.tupRg, Q.lstRg, Q.lenO, Q.ixO, Q.nil, Q.cons, Q.b1, Q.and2, Q.or2, Q.no, Q.some_, Q.seq, Q.rng1, Q.rng2, Q.enm, Q.s_nil, Q.s_cons, Q.s_set, Q.s_setT, Q.s_newL, Q.s_newD, Q.s_app, Q.s_ext, Q.s_dput, Q.s_expr, Q.s_ret, Q.s_retN, Q.s_ite, Q.s_raise, Q.s_frz, Res.bind, Res.ofO, Out.ofR, retO, entry, slot, truth, isiD, B.ls, B.ms, B.mh, B.sg, w1, w2, w3, s1]
theorem law_k03 (B : BaseK3 g tab) (BL : BaseL tab) (hlaw : tab (Str.ofString "law") = some d_law_k03) {ns : List Int} (hl : ns.length ≤ 63) (hf : Few ns) : run g tab (k + 7) (Str.ofString "law") [scrD ns] = .ok (.bool true) := by
  rw [run_is hlaw rfl]
  obtain ⟨r1, r2, r3, r4⟩ := ring_ok ns 2
  have hb := book_is ns 2
  have e1 : run g tab (k + 6) (Str.ofString "_law_book") [scrD ns, .int 2] = _ := book_ok (g := g) (k := k + 2) BL.toBaseL0 hl hf 2
  have e2 : run g tab (k + 6) (Str.ofString "_law_many") [scrD ns, .int 2] = _ := many_ok (g := g) (k := k + 4) BL.toBaseL0 ns hl 2
  generalize hn : (ring ns 2).1 = n at *
  generalize hm : (ring ns 2).2 = m at *
  generalize hsg : sightOf ns 2 = s at *
  generalize hrs : rulesOf ns 2 = rs at *
  have hs : s ∈ sights := hb.si
  have e3 : run g tab (k + 6) (Str.ofString "_law_stand") [scrD ns, .int 4, .int n, .int m] = _ := stand_ok (g := g) (k := k + 4) BL hf 4 n m (by omega) r4
  have hst := stand_is ns 4 n m (by omega) r3 r4
  have hlen : (standOf ns 4 n m).length = m := by
    unfold standOf
    rw [List.length_map, List.length_range]
  generalize standOf ns 4 n m = st at *
  have c0 : run g tab (k + 6) (Str.ofString "_law_cell") [scrD ns, .int 0] = .ok (.int (cell ns 0)) := cell_ok (g := g) (k := k + 5) BL.cell ns 0
  obtain ⟨j, hj, hjm⟩ : ∃ j : Nat, cell ns 0 % (m : Int) = j ∧ j < m := by
    have a1 := Int.emod_nonneg (cell ns 0) (show (m : Int) ≠ 0 by omega)
    have a2 := Int.emod_lt_of_pos (cell ns 0) (show (0 : Int) < m by omega)
    exact ⟨(cell ns 0 % (m : Int)).toNat, by omega, by omega⟩
  obtain ⟨p, hp⟩ : ∃ p, st[j]? = some p := ⟨st[j]'(by omega), List.getElem?_eq_getElem (by omega)⟩
  have e4 := view_ok (g := g) (k := k) B.toBaseV B.view hb hst hp
  have e5 := law_view_ok (g := g) (k := k + 4) BL.row BL.view n (by omega) (by omega) s hs st (by omega) p
  have hst2 : IsS n (st.map (mir n)) := ⟨by rw [List.length_map]; omega, by rw [List.length_map]; omega, fun q hq => by
    obtain ⟨z, _, rfl⟩ := List.mem_map.mp hq
    exact mir_range n (by omega) z⟩
  have e6 := view_ok (g := g) (k := k) B.toBaseV B.view hb hst2 (j := j) (p := mir n p) (by rw [List.getElem?_map, hp]; rfl)
  rw [mir_view n (by omega) s st hst.rg p] at e6
  have e7 := views_fn_ok (g := g) (k := k + 1) B r1 r2 hs r3 r4
  have e8 := law_views_ok (g := g) (k := k + 3) BL.row BL.view BL.stands BL.views n m (by omega) r2 r4 s hs
  have hin : viewL n s st p ∈ viewsL n s m := (views_mem n s m _).mpr ⟨st, hlen, hst.rg, p, List.mem_of_getElem? hp, rfl⟩
  have i1 := book_ix1 n s rs
  have i2 := stand_ix hp
  have md : binD .Mod (.int (cell ns 0)) (.int m) = some (.int j) := by
    show (if (0 : Int) < m then some (PyData.int (cell ns 0 % m)) else none) = _
    rw [if_pos (by omega), hj]
  have q1 := eq_row (viewL n s st p) (viewL n s st p)
  have q2 := eq_rows (viewsL n s m) (viewsL n s m)
  have q3 := in_rows (viewL n s st p) (viewsL n s m) hin
  have mirC : ∀ a b c d e f' : Option Sl, ev g (run g tab (k + 6)) (.lc (.one 9) (.seq (.var 2)) .no (.bin .Mod (.bin .Sub (.var 7) (.var 9)) (.var 7))) [a, b, some (.sh (iT st)), c, d, e, f', some (.sh (.int n)), some (.sh (.int m)), none] = .ok (.list ((st.map (mir n)).map .int)) := by
    intro a b c d e f'
    have ee : (st.map (mir n)).map PyData.int = (st.map PyData.int).map fun x => match x with | .int q => .int (mir n q) | _ => .none := by
      rw [List.map_map, List.map_map]
      rfl
    rw [ee]
    refine ev_lc_map _ (xs := st.map .int) rfl (by rw [List.length_map]; show _ ≤ 1000000; omega) fun x hx => ?_
    obtain ⟨q, hq, rfl⟩ := List.mem_map.mp hx
    refine ⟨_, rfl, ?_⟩
    show Res.ofO (if (0 : Int) < n then some (PyData.int (((n : Int) - q) % n)) else none) = _
    rw [if_pos (by omega)]
    rfl
  have e2' : run g tab (k + 6) (Str.ofString "_law_many") [scrD ns, .int 2] = .ok (.tuple [.int n, .int m]) := by
    rw [e2]
    simp only [pairD, hn, hm]
  have s5 : Rh.exec g (run g tab (k + 6)) (.ite (.bop .Or (.cons (.nt (.isi (.var 4) "tuple")) (.cons (.cmp .NotEq (.var 4) (.call (Str.ofString "_law_view") (.cons (.var 7) (.cons (.ix (.var 1) (.int 1)) (.cons (.var 2) (.cons (.ix (.var 2) (.var 3)) .nil)))))) .nil))) [.ret (.bl false)] [])
      [some (.sh (scrD ns)), some (.sh (bookT n s rs)), some (.sh (iT st)), some (.sh (.int j)), some (.sh (iT (viewL n s st p))), none, none, some (.sh (.int n)), some (.sh (.int m)), none] = .nx [some (.sh (scrD ns)), some (.sh (bookT n s rs)), some (.sh (iT st)), some (.sh (.int j)), some (.sh (iT (viewL n s st p))), none, none, some (.sh (.int n)), some (.sh (.int m)), none] := by
    simp only [Q.var, Q.int, Q.neg, Q.str, Q.bl, Q.non, Q.glob, Q.tup, Q.lst, Q.bin, Q.cmp, Q.chain, Q.inG, Q.nt, Q.bop, Q.ite, Q.ix, Q.sl, Q.tl0, Q.rev, Q.disp, Q.call, Q.bi1, Q.mn2, Q.isi, Q.cnt, Q.tupRg, Q.lstRg, Q.lenO, Q.ixO, Q.nil, Q.cons, Q.b1, Q.and2, Q.or2, Q.no, Q.some_, Q.seq, Q.rng1, Q.rng2, Q.enm, Q.s_nil, Q.s_cons, Q.s_set, Q.s_setT, Q.s_newL, Q.s_newD, Q.s_app, Q.s_ext, Q.s_dput, Q.s_expr, Q.s_ret, Q.s_retN, Q.s_ite, Q.s_raise, Q.s_frz, Res.bind, Res.ofO, Out.ofR, retO, entry, slot, truth, List.getElem?_cons_succ, List.getElem?_cons_zero, isiD, i1, i2, e5, cmpD, q1]
    simp
  have s7 : Rh.exec g (run g tab (k + 6)) (.ite (.cmp .NotEq (.call (Str.ofString "view") (.cons (.var 1) (.cons (.var 5) (.cons (.var 3) .nil)))) (.var 4)) [.ret (.bl false)] [])
      [some (.sh (scrD ns)), some (.sh (bookT n s rs)), some (.sh (iT st)), some (.sh (.int j)), some (.sh (iT (viewL n s st p))), some (.sh (iT (st.map (mir n)))), none, some (.sh (.int n)), some (.sh (.int m)), none] = .nx [some (.sh (scrD ns)), some (.sh (bookT n s rs)), some (.sh (iT st)), some (.sh (.int j)), some (.sh (iT (viewL n s st p))), some (.sh (iT (st.map (mir n)))), none, some (.sh (.int n)), some (.sh (.int m)), none] := by
    simp only [Q.var, Q.int, Q.neg, Q.str, Q.bl, Q.non, Q.glob, Q.tup, Q.lst, Q.bin, Q.cmp, Q.chain, Q.inG, Q.nt, Q.bop, Q.ite, Q.ix, Q.sl, Q.tl0, Q.rev, Q.disp, Q.call, Q.bi1, Q.mn2, Q.isi, Q.cnt, Q.tupRg, Q.lstRg, Q.lenO, Q.ixO, Q.nil, Q.cons, Q.b1, Q.and2, Q.or2, Q.no, Q.some_, Q.seq, Q.rng1, Q.rng2, Q.enm, Q.s_nil, Q.s_cons, Q.s_set, Q.s_setT, Q.s_newL, Q.s_newD, Q.s_app, Q.s_ext, Q.s_dput, Q.s_expr, Q.s_ret, Q.s_retN, Q.s_ite, Q.s_raise, Q.s_frz, Res.bind, Res.ofO, Out.ofR, retO, entry, slot, truth, List.getElem?_cons_succ, List.getElem?_cons_zero, e6, cmpD, q1]
    simp
  have s9 : Rh.exec g (run g tab (k + 6)) (.ret (.bop .And (.cons (.isi (.var 6) "list") (.cons (.cmp .Eq (.var 6) (.call (Str.ofString "_law_views") (.cons (.var 7) (.cons (.ix (.var 1) (.int 1)) (.cons (.var 8) .nil))))) (.cons (.cmp .In (.var 4) (.var 6)) .nil)))))
      [some (.sh (scrD ns)), some (.sh (bookT n s rs)), some (.sh (iT st)), some (.sh (.int j)), some (.sh (iT (viewL n s st p))), some (.sh (iT (st.map (mir n)))), some (.sh (.list ((viewsL n s m).map iT))), some (.sh (.int n)), some (.sh (.int m)), none] = .rt (.bool true) := by
    simp only [Q.var, Q.int, Q.neg, Q.str, Q.bl, Q.non, Q.glob, Q.tup, Q.lst, Q.bin, Q.cmp, Q.chain, Q.inG, Q.nt, Q.bop, Q.ite, Q.ix, Q.sl, Q.tl0, Q.rev, Q.disp, Q.call, Q.bi1, Q.mn2, Q.isi, Q.cnt, Q.tupRg, Q.lstRg, Q.lenO, Q.ixO, Q.nil, Q.cons, Q.b1, Q.and2, Q.or2, Q.no, Q.some_, Q.seq, Q.rng1, Q.rng2, Q.enm, Q.s_nil, Q.s_cons, Q.s_set, Q.s_setT, Q.s_newL, Q.s_newD, Q.s_app, Q.s_ext, Q.s_dput, Q.s_expr, Q.s_ret, Q.s_retN, Q.s_ite, Q.s_raise, Q.s_frz, Res.bind, Res.ofO, Out.ofR, retO, entry, slot, truth, List.getElem?_cons_succ, List.getElem?_cons_zero, isiD, i1, e8, cmpD, q2, q3]
    simp
  show retO (match Out.ofR (run g tab (k + 6) (Str.ofString "_law_book") [scrD ns, .int 2]) _ with | .nx δ' => _ | o => o) = _
  rw [e1]
  show retO (match Out.ofR (run g tab (k + 6) (Str.ofString "_law_many") [scrD ns, .int 2]) _ with | .nx δ' => _ | o => o) = _
  rw [e2']
  show retO (match Out.ofR (run g tab (k + 6) (Str.ofString "_law_stand") [scrD ns, .int 4, .int n, .int m]) _ with | .nx δ' => _ | o => o) = _
  rw [e3]
  show retO (match Out.ofR (Res.bind (run g tab (k + 6) (Str.ofString "_law_cell") [scrD ns, .int 0]) _) _ with | .nx δ' => _ | o => o) = _
  rw [c0]
  show retO (match Out.ofR (Res.ofO (binD .Mod (.int (cell ns 0)) (.int m))) _ with | .nx δ' => _ | o => o) = _
  rw [md]
  show retO (match Out.ofR (run g tab (k + 6) (Str.ofString "view") [bookT n s rs, iT st, .int j]) _ with | .nx δ' => _ | o => o) = _
  rw [e4]
  show retO (match Rh.exec g (run g tab (k + 6)) _ [some (.sh (scrD ns)), some (.sh (bookT n s rs)), some (.sh (iT st)), some (.sh (.int j)), some (.sh (iT (viewL n s st p))), none, none, some (.sh (.int n)), some (.sh (.int m)), none] with | .nx δ' => _ | o => o) = _
  rw [s5]
  show retO (match Out.ofR (Res.bind (ev g (run g tab (k + 6)) _ [some (.sh (scrD ns)), some (.sh (bookT n s rs)), some (.sh (iT st)), some (.sh (.int j)), some (.sh (iT (viewL n s st p))), none, none, some (.sh (.int n)), some (.sh (.int m)), none]) _) _ with | .nx δ' => _ | o => o) = _
  rw [mirC]
  show retO (match Rh.exec g (run g tab (k + 6)) _ [some (.sh (scrD ns)), some (.sh (bookT n s rs)), some (.sh (iT st)), some (.sh (.int j)), some (.sh (iT (viewL n s st p))), some (.sh (iT (st.map (mir n)))), none, some (.sh (.int n)), some (.sh (.int m)), none] with | .nx δ' => _ | o => o) = _
  rw [s7]
  have s8 : Rh.exec g (run g tab (k + 6)) (.set 6 (.call (Str.ofString "views") (.cons (.var 7) (.cons (.ix (.var 1) (.int 1)) (.cons (.var 8) .nil))))) [some (.sh (scrD ns)), some (.sh (bookT n s rs)), some (.sh (iT st)), some (.sh (.int j)), some (.sh (iT (viewL n s st p))), some (.sh (iT (st.map (mir n)))), none, some (.sh (.int n)), some (.sh (.int m)), none]
      = .nx [some (.sh (scrD ns)), some (.sh (bookT n s rs)), some (.sh (iT st)), some (.sh (.int j)), some (.sh (iT (viewL n s st p))), some (.sh (iT (st.map (mir n)))), some (.sh (.list ((viewsL n s m).map iT))), some (.sh (.int n)), some (.sh (.int m)), none] := by
    simp only [Q.s_set, Q.call, Q.cons, Q.nil, Q.ix, Q.var, Q.int, List.getElem?_cons_succ, List.getElem?_cons_zero, Res.bind, Res.ofO, i1, e7, Out.ofR, slot, List.set_cons_succ, List.set_cons_zero]
  show retO (match Rh.exec g (run g tab (k + 6)) _ [some (.sh (scrD ns)), some (.sh (bookT n s rs)), some (.sh (iT st)), some (.sh (.int j)), some (.sh (iT (viewL n s st p))), some (.sh (iT (st.map (mir n)))), none, some (.sh (.int n)), some (.sh (.int m)), none] with | .nx δ' => _ | o => o) = _
  rw [s8]
  show retO (match Rh.exec g (run g tab (k + 6)) _ _ with | .nx δ' => _ | o => o) = _
  rw [s9]
  rfl
end
end Rh

set_option Elab.async false
set_option linter.all false
set_option maxRecDepth 100000
set_option maxHeartbeats 1000000
/-! Runs of core code, statement by statement. -/
namespace Rh
open PySem (PyData Str)
/-- a run of a block, and what is wanted of its end -/
def W (g : Str → Option PyData) (f : Str → List PyData → Res PyData) (ss : List DS) (δ : Ev) (K : Out → Prop) : Prop := K (Rh.execs g f ss δ)
theorem bind_ok {α β : Type} {a : α} {k : α → Res β} : Res.bind (.ok a) k = k a := rfl
theorem bind_err {α β : Type} {c : Str} {k : α → Res β} : Res.bind (.err c) k = .err c := rfl
theorem rofO_some {α : Type} {a : α} : Res.ofO (some a) = .ok a := rfl
theorem map_some' {α β : Type} {a : α} {h : α → β} : (some a).map h = some (h a) := rfl
/-! what follows a value, a statement at a time -/
section
variable (g : Str → Option PyData) (f : Str → List PyData → Res PyData) (r : List DS) (δ : Ev) (K : Out → Prop)
def setK (i : Nat) : Res PyData → Prop
  | .ok d => W g f r (slot δ i (.sh d)) K
  | .err c => K (.err c)
  | .stuck => K .stuck
def oevK : Option Ev → Prop
  | some δ' => W g f r δ' K
  | none => K .stuck
def setTK (is : List Nat) : Res PyData → Prop
  | .ok d => oevK g f r K (setTg (.many is) d δ)
  | .err c => K (.err c)
  | .stuck => K .stuck
def ifK (c : Prop) [Decidable c] : Prop := if c then W g f r δ K else K .stuck
def newLK (i : Nat) : Res (List PyData) → Prop
  | .ok ds => ifK g f r (slot δ i (.own (.list ds))) K (ds.length ≤ lim)
  | .err c => K (.err c)
  | .stuck => K .stuck
def appK2 (i : Nat) (xs : List PyData) : Res PyData → Prop
  | .ok d => ifK g f r (slot δ i (.own (.list (xs ++ [d])))) K (xs.length < lim)
  | .err c => K (.err c)
  | .stuck => K .stuck
def appK (i : Nat) (e : DE) : Option (Option Sl) → Prop
  | some (some (.own (.list xs))) => appK2 g f r δ K i xs (ev g f e δ)
  | _ => K .stuck
def extK3 (i : Nat) (xs : List PyData) : PyData → Prop
  | .list ys => ifK g f r (slot δ i (.own (.list (xs ++ ys)))) K (xs.length + ys.length ≤ lim)
  | _ => K .stuck
def extK2 (i : Nat) (xs : List PyData) : Res PyData → Prop
  | .ok d => extK3 g f r δ K i xs d
  | .err c => K (.err c)
  | .stuck => K .stuck
def extK (i : Nat) (e : DE) : Option (Option Sl) → Prop
  | some (some (.own (.list xs))) => extK2 g f r δ K i xs (ev g f e δ)
  | _ => K .stuck
def dputK3 (i : Nat) (d : PyData) (kvs : List (PyData × PyData)) : Res PyData → Prop
  | .ok kd => ifK g f r (slot δ i (.own (.dict (dput kd d kvs)))) K (isKey kd = true ∧ kvs.length < lim)
  | .err c => K (.err c)
  | .stuck => K .stuck
def dputK2 (i : Nat) (k : DE) (d : PyData) : Option (Option Sl) → Prop
  | some (some (.own (.dict kvs))) => dputK3 g f r δ K i d kvs (ev g f k δ)
  | _ => K .stuck
def dputK (i : Nat) (k : DE) : Res PyData → Prop
  | .ok d => dputK2 g f r δ K i k d δ[i]?
  | .err c => K (.err c)
  | .stuck => K .stuck
def exprK : Res PyData → Prop
  | .ok _ => W g f r δ K
  | .err c => K (.err c)
  | .stuck => K .stuck
def retK : Res PyData → Prop
  | .ok d => K (.rt d)
  | .err c => K (.err c)
  | .stuck => K .stuck
def tstK (a b : List DS) : Option Bool → Prop
  | some true => W g f (a ++ r) δ K
  | some false => W g f (b ++ r) δ K
  | none => K .stuck
def iteK (a b : List DS) : Res PyData → Prop
  | .ok x => tstK g f r δ K a b (truth x)
  | .err c => K (.err c)
  | .stuck => K .stuck
def frzK (i : Nat) : Option (Option Sl) → Prop
  | some (some (.own d)) => W g f r (slot δ i (.sh d)) K
  | _ => K .stuck
end
section
variable {g : Str → Option PyData} {f : Str → List PyData → Res PyData} {δ : Ev} {K : Out → Prop} {r : List DS}
theorem setK_ok {i : Nat} {d : PyData} : setK g f r δ K i (.ok d) = W g f r (slot δ i (.sh d)) K := rfl
theorem setK_err {i : Nat} {c : Str} : setK g f r δ K i (.err c) = K (.err c) := rfl
theorem oevK_some {δ' : Ev} : oevK g f r K (some δ') = W g f r δ' K := rfl
theorem setTK_ok {is : List Nat} {d : PyData} : setTK g f r δ K is (.ok d) = oevK g f r K (setTg (.many is) d δ) := rfl
theorem setTK_err {is : List Nat} {c : Str} : setTK g f r δ K is (.err c) = K (.err c) := rfl
theorem ifK_pos {c : Prop} [Decidable c] (h : c) : ifK g f r δ K c = W g f r δ K := by unfold ifK; rw [if_pos h]
theorem ifK_true {d : Decidable True} : @ifK g f r δ K True d = W g f r δ K := by unfold ifK; rw [if_pos trivial]
theorem newLK_ok {i : Nat} {ds : List PyData} : newLK g f r δ K i (.ok ds) = ifK g f r (slot δ i (.own (.list ds))) K (ds.length ≤ lim) := rfl
theorem appK_is {i : Nat} {e : DE} {xs : List PyData} : appK g f r δ K i e (some (some (.own (.list xs)))) = appK2 g f r δ K i xs (ev g f e δ) := rfl
theorem appK2_ok {i : Nat} {xs : List PyData} {d : PyData} : appK2 g f r δ K i xs (.ok d) = ifK g f r (slot δ i (.own (.list (xs ++ [d])))) K (xs.length < lim) := rfl
theorem appK2_err {i : Nat} {xs : List PyData} {c : Str} : appK2 g f r δ K i xs (.err c) = K (.err c) := rfl
theorem extK_is {i : Nat} {e : DE} {xs : List PyData} : extK g f r δ K i e (some (some (.own (.list xs)))) = extK2 g f r δ K i xs (ev g f e δ) := rfl
theorem extK2_ok {i : Nat} {xs ys : List PyData} : extK2 g f r δ K i xs (.ok (.list ys)) = ifK g f r (slot δ i (.own (.list (xs ++ ys)))) K (xs.length + ys.length ≤ lim) := rfl
theorem extK2_err {i : Nat} {xs : List PyData} {c : Str} : extK2 g f r δ K i xs (.err c) = K (.err c) := rfl
theorem dputK_ok {i : Nat} {k : DE} {d : PyData} : dputK g f r δ K i k (.ok d) = dputK2 g f r δ K i k d δ[i]? := rfl
theorem dputK_err {i : Nat} {k : DE} {c : Str} : dputK g f r δ K i k (.err c) = K (.err c) := rfl
theorem dputK2_is {i : Nat} {k : DE} {d : PyData} {kvs : List (PyData × PyData)} : dputK2 g f r δ K i k d (some (some (.own (.dict kvs)))) = dputK3 g f r δ K i d kvs (ev g f k δ) := rfl
theorem dputK3_ok {i : Nat} {d kd : PyData} {kvs : List (PyData × PyData)} : dputK3 g f r δ K i d kvs (.ok kd) = ifK g f r (slot δ i (.own (.dict (dput kd d kvs)))) K (isKey kd = true ∧ kvs.length < lim) := rfl
theorem exprK_ok {d : PyData} : exprK g f r δ K (.ok d) = W g f r δ K := rfl
theorem exprK_err {c : Str} : exprK g f r δ K (.err c) = K (.err c) := rfl
theorem retK_ok {d : PyData} : retK K (.ok d) = K (.rt d) := rfl
theorem retK_err {c : Str} : retK K (.err c) = K (.err c) := rfl
theorem iteK_ok {a b : List DS} {x : PyData} : iteK g f r δ K a b (.ok x) = tstK g f r δ K a b (truth x) := rfl
theorem iteK_err {a b : List DS} {c : Str} : iteK g f r δ K a b (.err c) = K (.err c) := rfl
theorem tstK_true {a b : List DS} : tstK g f r δ K a b (some true) = W g f (a ++ r) δ K := rfl
theorem tstK_false {a b : List DS} : tstK g f r δ K a b (some false) = W g f (b ++ r) δ K := rfl
theorem tstK_not {a b : List DS} {c : Bool} : tstK g f r δ K a b (some (!c)) = tstK g f r δ K b a (some c) := by cases c <;> rfl
theorem tstK_dec {a b : List DS} {p : Prop} [Decidable p] : tstK g f r δ K a b (some (decide p)) = if p then W g f (a ++ r) δ K else W g f (b ++ r) δ K := by
  by_cases h : p
  · simp [h, tstK]
  · simp [h, tstK]
theorem frzK_is {i : Nat} {d : PyData} : frzK g f r δ K i (some (some (.own d))) = W g f r (slot δ i (.sh d)) K := rfl
theorem W_nil : W g f [] δ K = K (.nx δ) := rfl
theorem W_cons {s : DS} : W g f (s :: r) δ K = (match Rh.exec g f s δ with
    | .nx δ' => W g f r δ' K
    | o => K o) := by
  unfold W
  rw [Q.s_cons]
  cases Rh.exec g f s δ <;> rfl
theorem execs_append : ∀ (a : List DS) (δ : Ev), Rh.execs g f (a ++ r) δ = (match Rh.execs g f a δ with
    | .nx δ' => Rh.execs g f r δ'
    | o => o)
  | [], δ => rfl
  | s :: a, δ => by
    rw [List.cons_append, Q.s_cons, Q.s_cons]
    cases Rh.exec g f s δ with
    | nx δ2 => exact execs_append a δ2
    | _ => rfl
theorem W_append {a : List DS} : W g f (a ++ r) δ K = W g f a δ fun o => match o with
    | .nx δ' => W g f r δ' K
    | o => K o := by
  unfold W
  rw [execs_append]
  cases Rh.execs g f a δ <;> rfl
theorem W_set {i : Nat} {e : DE} : W g f (.set i e :: r) δ K = setK g f r δ K i (ev g f e δ) := by
  rw [W_cons, Q.s_set]
  cases ev g f e δ <;> rfl
theorem W_setT {is : List Nat} {e : DE} : W g f (.setT is e :: r) δ K = setTK g f r δ K is (ev g f e δ) := by
  rw [W_cons, Q.s_setT]
  cases ev g f e δ with
  | ok d =>
    show (match (match setTg (.many is) d δ with
    | some δ' => Out.nx δ'
    | none => Out.stuck) with
    | .nx δ' => W g f r δ' K
    | o => K o) = oevK g f r K (setTg (.many is) d δ)
    cases setTg (.many is) d δ <;> rfl
  | _ => rfl
theorem ite_out {c : Prop} [Decidable c] {δ' : Ev} : (match (if c then Out.nx δ' else Out.stuck) with
    | .nx δ' => W g f r δ' K
    | o => K o) = ifK g f r δ' K c := by
  unfold ifK
  by_cases h : c <;> simp [h]
theorem W_newL {i : Nat} {es : DEs} : W g f (.newL i es :: r) δ K = newLK g f r δ K i (evs g f es δ) := by
  rw [W_cons, Q.s_newL]
  cases evs g f es δ with
  | ok d => exact ite_out
  | _ => rfl
theorem W_newD {i : Nat} : W g f (.newD i :: r) δ K = W g f r (slot δ i (.own (.dict []))) K := rfl
theorem W_app {i : Nat} {e : DE} : W g f (.app i e :: r) δ K = appK g f r δ K i e δ[i]? := by
  rw [W_cons, Q.s_app]
  generalize δ[i]? = o
  rcases o with _ | _ | d | d
  · rfl
  · rfl
  · rfl
  · cases d with
    | list xs =>
      show (match Out.ofR (ev g f e δ) (fun d => if xs.length < lim then Out.nx (slot δ i (.own (.list (xs ++ [d])))) else Out.stuck) with
        | .nx δ' => W g f r δ' K
        | o => K o) = appK2 g f r δ K i xs (ev g f e δ)
      cases ev g f e δ with
      | ok d => exact ite_out
      | _ => rfl
    | _ => rfl
theorem W_ext {i : Nat} {e : DE} : W g f (.ext i e :: r) δ K = extK g f r δ K i e δ[i]? := by
  rw [W_cons, Q.s_ext]
  generalize δ[i]? = o
  rcases o with _ | _ | d | d
  · rfl
  · rfl
  · rfl
  · cases d with
    | list xs =>
      show (match Out.ofR (ev g f e δ) (fun d => (match d with
        | .list ys => if xs.length + ys.length ≤ lim then Out.nx (slot δ i (.own (.list (xs ++ ys)))) else Out.stuck
        | _ => Out.stuck)) with
        | .nx δ' => W g f r δ' K
        | o => K o) = extK2 g f r δ K i xs (ev g f e δ)
      cases ev g f e δ with
      | ok d =>
        cases d with
        | list ys => exact ite_out
        | _ => rfl
      | _ => rfl
    | _ => rfl
theorem W_dput {i : Nat} {k v : DE} : W g f (.dput i k v :: r) δ K = dputK g f r δ K i k (ev g f v δ) := by
  rw [W_cons, Q.s_dput]
  cases ev g f v δ with
  | ok d =>
    show (match (match δ[i]? with
      | some (some (.own (.dict kvs))) => Out.ofR (ev g f k δ) fun kd => if isKey kd && decide (kvs.length < lim) then Out.nx (slot δ i (.own (.dict (dput kd d kvs)))) else Out.stuck
      | _ => Out.stuck) with
        | .nx δ' => W g f r δ' K
        | o => K o) = dputK2 g f r δ K i k d δ[i]?
    generalize δ[i]? = o
    rcases o with _ | _ | d | d
    · rfl
    · rfl
    · rfl
    · cases d with
      | dict kvs =>
        show _ = dputK3 g f r δ K i _ kvs (ev g f k δ)
        cases ev g f k δ with
        | ok kd =>
          show (match (if isKey kd && decide (kvs.length < lim) then Out.nx _ else Out.stuck) with
            | .nx δ' => W g f r δ' K
            | o => K o) = ifK g f r _ K (isKey kd = true ∧ kvs.length < lim)
          rw [ite_out]
          unfold ifK
          by_cases h : isKey kd = true ∧ kvs.length < lim
          · rw [if_pos h, if_pos (by rw [h.1, Bool.true_and, decide_eq_true_eq]; exact h.2)]
          · rw [if_neg h, if_neg (by rw [Bool.and_eq_true, decide_eq_true_eq]; exact h)]
        | _ => rfl
      | _ => rfl
  | _ => rfl
theorem W_expr {e : DE} : W g f (.expr e :: r) δ K = exprK g f r δ K (ev g f e δ) := by
  rw [W_cons, Q.s_expr]
  cases ev g f e δ <;> rfl
theorem W_ret {e : DE} : W g f (.ret e :: r) δ K = retK K (ev g f e δ) := by
  rw [W_cons, Q.s_ret]
  cases ev g f e δ <;> rfl
theorem W_retN : W g f (.retN :: r) δ K = K (.rt .none) := rfl
theorem W_raise {c m : Str} : W g f (.raise c m :: r) δ K = K (.err c) := rfl
theorem W_ite {c : DE} {a b : List DS} : W g f (.ite c a b :: r) δ K = iteK g f r δ K a b (ev g f c δ) := by
  rw [W_cons, Q.s_ite]
  cases ev g f c δ with
  | ok x =>
    show (match (match truth x with
      | some true => Rh.execs g f a δ
      | some false => Rh.execs g f b δ
      | none => Out.stuck) with
        | .nx δ' => W g f r δ' K
        | o => K o) = tstK g f r δ K a b (truth x)
    rcases truth x with _ | _ | _
    · rfl
    · show _ = W g f (b ++ r) δ K
      rw [W_append]
      unfold W
      cases Rh.execs g f b δ <;> rfl
    · show _ = W g f (a ++ r) δ K
      rw [W_append]
      unfold W
      cases Rh.execs g f a δ <;> rfl
  | _ => rfl
theorem W_frz {i : Nat} : W g f (.frz i :: r) δ K = frzK g f r δ K i δ[i]? := by
  rw [W_cons, Q.s_frz]
  generalize δ[i]? = o
  rcases o with _ | _ | d | d <;> rfl
def forK (g : Str → Option PyData) (f : Str → List PyData → Res PyData) (r : List DS) (δ : Ev) (K : Out → Prop) (t : Tg) (b : List DS) : Res (List PyData) → Prop
  | .ok xs => (match forL (Rh.execs g f b) t xs δ with
    | .nx δ' => W g f r δ' K
    | o => K o)
  | .err c => K (.err c)
  | .stuck => K .stuck
theorem W_for {t : Tg} {it : IT} {b : List DS} : W g f (.for t it b :: r) δ K = forK g f r δ K t b (evi g f it δ) := by
  rw [W_cons, Q.s_for]
  cases evi g f it δ <;> rfl
/-! ### loops -/
theorem setT1 {i : Nat} {d : PyData} {δ : Ev} : setTg (.one i) d δ = some (δ.set i (some (.sh d))) := rfl
theorem setT2 {i j : Nat} {a b : PyData} {δ : Ev} : setTg (.many [i, j]) (.tuple [a, b]) δ = some ((δ.set i (some (.sh a))).set j (some (.sh b))) := rfl
theorem setT3 {i j l : Nat} {a b c : PyData} {δ : Ev} : setTg (.many [i, j, l]) (.tuple [a, b, c]) δ = some (((δ.set i (some (.sh a))).set j (some (.sh b))).set l (some (.sh c))) := rfl
theorem wipe1 {i : Nat} {δ : Ev} : wipeTg (.one i) δ = δ.set i none := rfl
theorem wipe2 {i j : Nat} {δ : Ev} : wipeTg (.many [i, j]) δ = (δ.set j none).set i none := rfl
theorem wipe3 {i j l : Nat} {δ : Ev} : wipeTg (.many [i, j, l]) δ = ((δ.set l none).set j none).set i none := rfl
/-- a turn of a loop -/
def WT (g : Str → Option PyData) (f : Str → List PyData → Res PyData) (t : Tg) (x : PyData) (b : List DS) (δ : Ev) (K : Out → Prop) : Prop := match setTg t x δ with
  | some δ' => W g f b δ' K
  | none => False
/-- a loop that goes on to its end: the state goes from turn to turn by step -/
theorem forL_fold {α S J : Type} {enc : α → PyData} {t : Tg} {b : List DS} (E : S → J → Ev) (step : S → α → S) (I : Nat → S → Prop) (L : List α)
    (h : ∀ i s j x, L[i]? = some x → I i s → I (i + 1) (step s x) ∧ WT g f t (enc x) b (E s j) fun o => ∃ j', o = .nx (E (step s x) j') ∨ o = .ct (E (step s x) j')) : ∀ (xs : List α) (i : Nat) (s : S) (j : J), L.drop i = xs → I i s →
    I (i + xs.length) (xs.foldl step s) ∧ ∃ j', forL (Rh.execs g f b) t (xs.map enc) (E s j) = .nx (E (xs.foldl step s) j')
  | [], i, s, j, _, hi => ⟨hi, j, rfl⟩
  | x :: xs, i, s, j, hl, hi => by
    have hx : L[i]? = some x := by
      have z := List.getElem?_drop (xs := L) (i := i) (j := 0)
      rw [hl] at z
      exact z.symm
    have hd : L.drop (i + 1) = xs := by
      rw [← List.drop_drop, hl]
      rfl
    rw [List.length_cons]
    obtain ⟨i2, w0⟩ := h i s j x hx hi
    unfold WT at w0
    cases e : setTg t (enc x) (E s j) with
    | none =>
      rw [e] at w0
      exact w0.elim
    | some δ =>
    rw [e] at w0
    obtain ⟨j2, w⟩ := w0
    obtain ⟨i3, j3, e3⟩ := forL_fold E step I L h xs (i + 1) (step s x) j2 hd i2
    refine ⟨by rw [show i + (xs.length + 1) = i + 1 + xs.length by omega]; exact i3, j3, ?_⟩
    rw [List.map_cons, forL, e]
    simp only
    rcases w with w | w
    · rw [w]
      exact e3
    · rw [w]
      exact e3
theorem W_fold {α S J : Type} {enc : α → PyData} {t : Tg} {it : IT} {b : List DS} (E : S → J → Ev) (step : S → α → S) (I : Nat → S → Prop) (xs : List α) (s : S) (j : J) (hi : evi g f it (E s j) = .ok (xs.map enc)) (h0 : I 0 s)
    (h1 : ∀ i s j x, xs[i]? = some x → I i s → I (i + 1) (step s x) ∧ WT g f t (enc x) b (E s j) fun o => ∃ j', o = .nx (E (step s x) j') ∨ o = .ct (E (step s x) j'))
    (h2 : ∀ j', I xs.length (xs.foldl step s) → W g f r (E (xs.foldl step s) j') K) : W g f (.for t it b :: r) (E s j) K := by
  rw [W_for, hi]
  obtain ⟨i3, j3, e3⟩ := forL_fold (enc := enc) (t := t) (b := b) E step I xs h1 xs 0 s j rfl h0
  rw [Nat.zero_add] at i3
  show (match forL (Rh.execs g f b) t (xs.map enc) (E s j) with
    | .nx δ' => W g f r δ' K
    | o => K o)
  rw [e3]
  exact h2 j3 i3
/-- a loop that looks for something: it returns at the first item where p holds, and changes nothing before -/
theorem forL_find {α J : Type} {enc : α → PyData} {t : Tg} {b : List DS} (E : J → Ev) (p : α → Bool) (R : α → PyData) : ∀ (xs : List α) (j : J),
    (∀ j x, x ∈ xs → WT g f t (enc x) b (E j) fun o => if p x then o = .rt (R x) else ∃ j', o = .nx (E j') ∨ o = .ct (E j')) →
    (match xs.find? p with
      | some x => forL (Rh.execs g f b) t (xs.map enc) (E j) = .rt (R x)
      | none => ∃ j', forL (Rh.execs g f b) t (xs.map enc) (E j) = .nx (E j'))
  | [], j, _ => ⟨j, rfl⟩
  | x :: xs, j, h => by
    have w := h j x List.mem_cons_self
    unfold WT at w
    cases e : setTg t (enc x) (E j) with
    | none =>
      rw [e] at w
      exact w.elim
    | some δ =>
    rw [e] at w
    have ih := fun j => forL_find E p R xs j fun j y hy => h j y (List.mem_cons_of_mem _ hy)
    rw [List.find?_cons, List.map_cons, forL, e]
    simp only
    unfold W at w
    cases hp : p x with
    | true =>
      rw [hp] at w
      simp only [if_true] at w
      simp only [w]
    | false =>
      rw [hp] at w
      obtain ⟨j2, w | w⟩ := w
      · simp only [w]
        exact ih j2
      · simp only [w]
        exact ih j2
theorem W_find {α J : Type} {enc : α → PyData} {t : Tg} {it : IT} {b : List DS} (E : J → Ev) (p : α → Bool) (R : α → PyData) (xs : List α) (j : J) (hi : evi g f it (E j) = .ok (xs.map enc))
    (h1 : ∀ j x, x ∈ xs → WT g f t (enc x) b (E j) fun o => if p x then o = .rt (R x) else ∃ j', o = .nx (E j') ∨ o = .ct (E j'))
    (h2 : ∀ x, xs.find? p = some x → K (.rt (R x))) (h3 : ∀ j', xs.find? p = none → W g f r (E j') K) : W g f (.for t it b :: r) (E j) K := by
  rw [W_for, hi]
  have q := forL_find (enc := enc) (t := t) (b := b) E p R xs j h1
  show (match forL (Rh.execs g f b) t (xs.map enc) (E j) with
    | .nx δ' => W g f r δ' K
    | o => K o)
  cases e : xs.find? p with
  | some x =>
    rw [e] at q
    simp only at q
    rw [q]
    exact h2 x e
  | none =>
    rw [e] at q
    obtain ⟨j', q⟩ := q
    rw [q]
    exact h3 j' e
end
/-! ### defs -/
variable {g : Str → Option PyData} {tab : Str → Option Df}
theorem run_W {x : Str} {d : Df} {ds : List PyData} {k : Nat} {v : Res PyData} (h : tab x = some d) (hk : 1 ≤ k) (hl : ds.length = d.np) (w : W g (run g tab (k - 1)) d.body (entry d ds) fun o => retO o = v) : run g tab k x ds = v := by
  obtain ⟨k, rfl⟩ : ∃ k', k = k' + 1 := ⟨k - 1, by omega⟩
  rw [run_succ h, if_pos hl]
  rw [← w]
  show _ = retO (Rh.execs g (run g tab k) d.body (entry d ds))
  cases Rh.execs g (run g tab k) d.body (entry d ds) <;> rfl
theorem lev {P : Nat → Prop} {c : Nat} (h : ∀ k, P (k + c)) {k : Nat} (hk : c ≤ k) : P k := by
  obtain ⟨j, rfl⟩ : ∃ j, k = j + c := ⟨k - c, by omega⟩
  exact h j
section
variable {α : Type} {a b c d e : α}
theorem len_le0 : (([] : List α).length ≤ lim) = True := by simp [lim]
theorem len_le1 : ([a].length ≤ lim) = True := by simp [lim]
theorem len_le2 : ([a, b].length ≤ lim) = True := by simp [lim]
theorem len_le3 : ([a, b, c].length ≤ lim) = True := by simp [lim]
theorem len_le4 : ([a, b, c, d].length ≤ lim) = True := by simp [lim]
theorem len_le5 : ([a, b, c, d, e].length ≤ lim) = True := by simp [lim]
end
theorem limN0 : ((0 : Nat) ≤ lim) = True := by simp [lim]
theorem limN1 : ((1 : Nat) ≤ lim) = True := by simp [lim]
theorem limN2 : ((2 : Nat) ≤ lim) = True := by simp [lim]
theorem limN3 : ((3 : Nat) ≤ lim) = True := by simp [lim]
theorem limN4 : ((4 : Nat) ≤ lim) = True := by simp [lim]
theorem limN5 : ((5 : Nat) ≤ lim) = True := by simp [lim]
/-- a turn of a comprehension -/
def lcT (g : Str → Option PyData) (f : Str → List PyData → Res PyData) (t : Tg) (c : DO) (el : DE) (δ : Ev) (x : PyData) : Res (Option PyData) := match setTg t x (wipeTg t δ) with
  | some δ' => (evc g f c δ').bind fun k => if k then (ev g f el δ').bind fun y => .ok (some y) else .ok none
  | none => .stuck
namespace Q
variable {f : Str → List PyData → Res PyData} {δ : Ev}
theorem cno : evc g f .no δ = .ok true := by simp only [evc]
theorem csome {c : DE} : evc g f (.some c) δ = (ev g f c δ).bind fun x => .ofO (truth x) := by simp only [evc]
end Q
theorem cmpE {a b : PyData} : cmpD .Eq a b = eqD a b := rfl
theorem cmpN {a b : PyData} : cmpD .NotEq a b = (eqD a b).map (!·) := rfl
theorem cmpLtI {a b : Int} : cmpD .Lt (.int a) (.int b) = some (decide (a < b)) := rfl
theorem cmpLeI {a b : Int} : cmpD .LtE (.int a) (.int b) = some (decide (a ≤ b)) := rfl
theorem cmpGtI {a b : Int} : cmpD .Gt (.int a) (.int b) = some (decide (b < a)) := rfl
theorem cmpGeI {a b : Int} : cmpD .GtE (.int a) (.int b) = some (decide (b ≤ a)) := rfl
theorem cmpInL {a : PyData} {b : List PyData} : cmpD .In a (.list b) = inD a b := rfl
theorem cmpInT {a : PyData} {b : List PyData} : cmpD .In a (.tuple b) = inD a b := rfl
theorem cmpNiL {a : PyData} {b : List PyData} : cmpD .NotIn a (.list b) = (inD a b).map (!·) := rfl
theorem cmpNiT {a : PyData} {b : List PyData} : cmpD .NotIn a (.tuple b) = (inD a b).map (!·) := rfl
theorem addI {a b : Int} : binD .Add (.int a) (.int b) = some (.int (a + b)) := by simp only [binD]
theorem subI {a b : Int} : binD .Sub (.int a) (.int b) = some (.int (a - b)) := by simp only [binD]
theorem lenL {xs : List PyData} : bi1D .len (.list xs) = some (.int xs.length) := rfl
theorem lenT {xs : List PyData} : bi1D .len (.tuple xs) = some (.int xs.length) := rfl
theorem tupL {xs : List PyData} : bi1D .tuple (.list xs) = some (.tuple xs) := rfl
theorem lstT {xs : List PyData} : bi1D .list (.tuple xs) = some (.list xs) := rfl
theorem lstL {xs : List PyData} : bi1D .list (.list xs) = some (.list xs) := rfl
theorem isiLL {xs : List PyData} : isiD "list" (.list xs) = some true := rfl
theorem isiTT {xs : List PyData} : isiD "tuple" (.tuple xs) = some true := rfl
theorem isiBB {b : Bool} : isiD "bool" (.bool b) = some true := rfl
theorem isiII {i : Int} : isiD "int" (.int i) = some true := rfl
theorem isiSS {s : Str} : isiD "str" (.str s) = some true := rfl
theorem levR {x : Str} {ds : List PyData} {r : Res PyData} {k : Nat} (c : Nat) (h : ∀ k, run g tab (k + c) x ds = r) (hk : c ≤ k) : run g tab k x ds = r := by
  obtain ⟨j, rfl⟩ : ∃ j, k = j + c := ⟨k - c, by omega⟩
  exact h j
end Rh

set_option Elab.async false
set_option linter.all false
set_option maxRecDepth 100000
set_option maxHeartbeats 1000000
/-! Things as data: equality, order, sorting, dicts. -/
namespace Rh
open PySem (PyData Str)
/-- things that are told apart as their data are -/
class Enc (α : Type) [DecidableEq α] where
  e : α → PyData
  eqv : ∀ a b, PyData.eqv (e a) (e b) = decide (a = b)
  lay : ∀ a, PyData.canLay0 (e a) = true
  dp : Nat
  dep : ∀ a, PyData.depth (e a) ≤ dp
  nod : ∀ a, ∀ q, e a ≠ .dict q
/-- not deep -/
class Shal (α : Type) [DecidableEq α] [Enc α] : Prop where
  sh : Enc.dp α ≤ 20
open Enc (e) in
/-- things in order -/
class Ord' (α : Type) [DecidableEq α] [Enc α] where
  lt : α → α → Bool
  ok : α → Bool
  tup : Bool
  data : ∀ a b : α, PySem.W.dataLt (e a) (e b) = lt a b
  alk : ∀ a b : α, PySem.W.alike (e a) (e b) = true
  nn : ∀ a : α, e a ≠ .none
  kt : tup = true → ∀ a : α, ok a = true → ∃ x r, e a = .tuple (x :: r)
  kn : tup = false → ∀ a : α, ∀ xs, e a ≠ .tuple xs
  tri : ∀ a b : α, lt a b = true ∨ a = b ∨ lt b a = true
  irr : ∀ a : α, lt a a = false
  trans : ∀ a b c : α, lt a b = true → lt b c = true → lt a c = true
open Enc (e) in
/-- keys of dicts -/
class Key' (α : Type) [DecidableEq α] [Enc α] : Prop where
  key : ∀ a : α, isKey (e a) = true
open Enc (e)
open Ord' (lt ok)
section
variable {α : Type} [DecidableEq α] [Enc α]
theorem dep20 [Shal α] (a : α) : PyData.depth (e a) ≤ 20 := Nat.le_trans (Enc.dep a) Shal.sh
theorem Enc.inj {a b : α} (h : e a = e b) : a = b := by
  have z := Enc.eqv a b
  rw [h, Enc.eqv b b] at z
  simpa using z
theorem depthAll_map [Shal α] : ∀ xs : List α, PyData.depthAll (xs.map e) ≤ 20
  | [] => by simp [PyData.depthAll]
  | x :: r => by
    have := depthAll_map r
    have := dep20 x
    rw [List.map_cons, PyData.depthAll]
    omega
theorem layAll_map : ∀ xs : List α, PyData.canLayAll0 (xs.map e) = true
  | [] => by simp [PyData.canLayAll0]
  | x :: r => by
    rw [List.map_cons, PyData.canLayAll0, layAll_map r, Enc.lay x]
    rfl
theorem eqvAll_map : ∀ xs ys : List α, PyData.eqvAll (xs.map e) (ys.map e) = decide (xs = ys)
  | [], [] => by simp [PyData.eqvAll]
  | [], _ :: _ => by simp [PyData.eqvAll]
  | _ :: _, [] => by simp [PyData.eqvAll]
  | a :: L, b :: M => by
    rw [List.map_cons, List.map_cons, PyData.eqvAll, Enc.eqv, eqvAll_map L M, Bool.eq_iff_iff]
    simp
theorem shaped_e [Shal α] (a : α) : PySem.SeqAt.shaped (e a) = true := by
  have := dep20 a
  unfold PySem.SeqAt.shaped
  rw [Enc.lay, Bool.true_and, decide_eq_true_eq]
  omega
theorem shaped_list [Shal α] (xs : List α) : PySem.SeqAt.shaped (.list (xs.map e)) = true := by
  have := depthAll_map xs
  unfold PySem.SeqAt.shaped
  rw [PyData.canLay0, layAll_map, Bool.true_and, decide_eq_true_eq, PyData.depth]
  omega
theorem shaped_tuple [Shal α] (xs : List α) : PySem.SeqAt.shaped (.tuple (xs.map e)) = true := by
  have := depthAll_map xs
  unfold PySem.SeqAt.shaped
  rw [PyData.canLay0, layAll_map, Bool.true_and, decide_eq_true_eq, PyData.depth]
  omega
theorem eq_e [Shal α] (a b : α) : eqD (e a) (e b) = some (decide (a = b)) := by
  unfold eqD
  rw [shaped_e, shaped_e, Enc.eqv]
  rfl
theorem eq_list [Shal α] (a b : List α) : eqD (.list (a.map e)) (.list (b.map e)) = some (decide (a = b)) := by
  unfold eqD
  rw [shaped_list, shaped_list, PyData.eqv, eqvAll_map]
  rfl
theorem in_list [Shal α] (x : α) (xs : List α) : inD (e x) (xs.map e) = some (decide (x ∈ xs)) := by
  unfold inD
  rw [shaped_e, shaped_list]
  simp only [Bool.and_self, if_true, Option.some.injEq]
  rw [Bool.eq_iff_iff, List.any_eq_true, decide_eq_true_eq]
  constructor
  · rintro ⟨y, hy, h⟩
    obtain ⟨z, hz, rfl⟩ := List.mem_map.mp hy
    rw [Enc.eqv, decide_eq_true_eq] at h
    rw [← h]
    exact hz
  · intro h
    exact ⟨e x, List.mem_map.mpr ⟨x, h, rfl⟩, by rw [Enc.eqv]; simp⟩
/-! ### order -/
def leB [Ord' α] (a b : α) : Bool := !lt b a
theorem leB_trans [Ord' α] (a b c : α) (h1 : leB a b = true) (h2 : leB b c = true) : leB a c = true := by
  unfold leB at *
  simp only [Bool.not_eq_true'] at *
  rcases Ord'.tri c a with z | z | z
  · rcases Ord'.tri c b with y | y | y
    · rw [h2] at y; cases y
    · subst y; rw [h1] at z; cases z
    · have := Ord'.trans b c a y z
      rw [h1] at this; cases this
  · subst z; exact Ord'.irr c
  · cases q : lt c a with
    | false => rfl
    | true =>
      have := Ord'.trans _ _ _ z q
      rw [Ord'.irr] at this; cases this
theorem leB_total [Ord' α] (a b : α) : (leB a b || leB b a) = true := by
  unfold leB
  rcases Ord'.tri a b with z | z | z
  · cases q : lt b a with
    | false => rfl
    | true =>
      have := Ord'.trans _ _ _ z q
      rw [Ord'.irr] at this; cases this
  · subst z; rw [Ord'.irr]; rfl
  · cases q : lt a b with
    | false => simp
    | true =>
      have := Ord'.trans _ _ _ z q
      rw [Ord'.irr] at this; cases this
theorem leB_anti [Ord' α] (a b : α) (h1 : leB a b = true) (h2 : leB b a = true) : a = b := by
  unfold leB at *
  simp only [Bool.not_eq_true'] at *
  rcases Ord'.tri a b with z | z | z
  · rw [h2] at z; cases z
  · exact z
  · rw [h1] at z; cases z
def sortL [Ord' α] (xs : List α) : List α := xs.mergeSort leB
theorem sortL_perm [Ord' α] (xs : List α) : (sortL xs).Perm xs := List.mergeSort_perm xs leB
theorem sortL_mem [Ord' α] (xs : List α) (a : α) : a ∈ sortL xs ↔ a ∈ xs := (sortL_perm xs).mem_iff
theorem sortL_len [Ord' α] (xs : List α) : (sortL xs).length = xs.length := (sortL_perm xs).length_eq
theorem sortL_sorted [Ord' α] (xs : List α) : (sortL xs).Pairwise fun a b => leB a b = true := List.pairwise_mergeSort (fun a b c => leB_trans a b c) (fun a b => leB_total a b) xs
theorem sortL_eq [Ord' α] {xs ys : List α} (h : xs.Perm ys) : sortL xs = sortL ys :=
  List.Perm.eq_of_pairwise (le := fun a b => leB a b = true) (fun a b _ _ => leB_anti a b) (sortL_sorted xs) (sortL_sorted ys) ((sortL_perm xs).trans (h.trans (sortL_perm ys).symm))
theorem sortL_of_sorted [Ord' α] {xs : List α} (h : xs.Pairwise fun a b => leB a b = true) : sortL xs = xs :=
  List.Perm.eq_of_pairwise (le := fun a b => leB a b = true) (fun a b _ _ => leB_anti a b) (sortL_sorted xs) h (sortL_perm xs)
theorem perm_of_mem {xs ys : List α} (h1 : xs.Nodup) (h2 : ys.Nodup) (h : ∀ a, a ∈ xs ↔ a ∈ ys) : xs.Perm ys := (List.perm_ext_iff_of_nodup h1 h2).mpr h
theorem sortL_same [Ord' α] {xs ys : List α} (h1 : xs.Nodup) (h2 : ys.Nodup) (h : ∀ a, a ∈ xs ↔ a ∈ ys) : sortL xs = sortL ys := sortL_eq (perm_of_mem h1 h2 h)
theorem sortL_nodup [Ord' α] {xs : List α} (h : xs.Nodup) : (sortL xs).Nodup := (sortL_perm xs).nodup_iff.mpr h
theorem sortD_e [Ord' α] (xs : List α) : sortD (xs.map e) = (sortL xs).map e := by
  unfold sortD sortL
  rw [List.map_mergeSort]
  intro a _ b _
  show leB a b = !PySem.W.dataLt (e b) (e a)
  rw [Ord'.data]
  rfl
theorem sortable_e [Shal α] [Ord' α] (xs : List α) (h : ∀ x ∈ xs, ok x = true) (hl : xs.length ≤ lim) : sortable (xs.map e) = true := by
  unfold sortable
  rw [Bool.and_eq_true, Bool.and_eq_true, Bool.and_eq_true]
  refine ⟨⟨⟨?_, ?_⟩, ?_⟩, ?_⟩
  · rw [List.all_eq_true]
    intro a ha
    rw [List.all_eq_true]
    intro b hb
    obtain ⟨x, _, rfl⟩ := List.mem_map.mp ha
    obtain ⟨y, _, rfl⟩ := List.mem_map.mp hb
    exact Ord'.alk x y
  · rw [Bool.or_eq_true]
    cases t : Ord'.tup (α := α) with
    | true =>
      left
      rw [List.all_eq_true]
      intro a ha
      obtain ⟨x, hx, rfl⟩ := List.mem_map.mp ha
      obtain ⟨y, r, z⟩ := Ord'.kt t x (h x hx)
      rw [z]
    | false =>
      right
      rw [List.all_eq_true]
      intro a ha
      obtain ⟨x, hx, rfl⟩ := List.mem_map.mp ha
      have z1 := Ord'.kn t x
      have z2 := Ord'.nn x
      cases q : (e x : PyData) with
      | tuple xs => exact absurd q (z1 xs)
      | none => exact absurd q z2
      | _ => rfl
  · rw [List.length_map, decide_eq_true_eq]
    exact hl
  · rw [List.all_eq_true]
    intro a ha
    obtain ⟨x, _, rfl⟩ := List.mem_map.mp ha
    have := dep20 x
    rw [Enc.lay, Bool.and_true, decide_eq_true_eq]
    omega
theorem sorted_list [Shal α] [Ord' α] (xs : List α) (h : ∀ x ∈ xs, ok x = true) (hl : xs.length ≤ lim) : bi1D .sorted (.list (xs.map e)) = some (.list ((sortL xs).map e)) := by
  show (if sortable (xs.map e) = true then _ else _) = _
  rw [if_pos (sortable_e xs h hl), sortD_e]
theorem sorted_tuple [Shal α] [Ord' α] (xs : List α) (h : ∀ x ∈ xs, ok x = true) (hl : xs.length ≤ lim) : bi1D .sorted (.tuple (xs.map e)) = some (.list ((sortL xs).map e)) := by
  show (if sortable (xs.map e) = true then _ else _) = _
  rw [if_pos (sortable_e xs h hl), sortD_e]
/-! ### the least -/
def minF [Ord' α] : List α → α → α
  | [], b => b
  | x :: r, b => minF r (if lt x b then x else b)
theorem minF_mem [Ord' α] : ∀ (xs : List α) (b : α), minF xs b = b ∨ minF xs b ∈ xs
  | [], b => .inl rfl
  | x :: r, b => by
    unfold minF
    rcases minF_mem r (if lt x b then x else b) with h | h
    · rw [h]
      split
      · exact .inr List.mem_cons_self
      · exact .inl rfl
    · exact .inr (List.mem_cons_of_mem _ h)
theorem minF_le [Ord' α] : ∀ (xs : List α) (b : α), leB (minF xs b) b = true ∧ ∀ x ∈ xs, leB (minF xs b) x = true
  | [], b => ⟨by unfold leB minF; rw [Ord'.irr]; rfl, fun x h => by cases h⟩
  | x :: r, b => by
    unfold minF
    obtain ⟨h1, h2⟩ := minF_le r (if lt x b then x else b)
    have hb : leB (if lt x b then x else b) b = true := by
      split
      · rename_i h
        unfold leB
        cases q : lt b x with
        | false => rfl
        | true =>
          have := Ord'.trans _ _ _ h q
          rw [Ord'.irr] at this; cases this
      · unfold leB; rw [Ord'.irr]; rfl
    have hx : leB (if lt x b then x else b) x = true := by
      split
      · unfold leB; rw [Ord'.irr]; rfl
      · rename_i h
        unfold leB
        simpa using h
    refine ⟨leB_trans _ _ _ h1 hb, fun y hy => ?_⟩
    rcases List.mem_cons.mp hy with rfl | hy
    · exact leB_trans _ _ _ h1 hx
    · exact h2 y hy
theorem minL_e [Ord' α] : ∀ (xs : List α) (b : α), minL (xs.map e) (e b) = e (minF xs b)
  | [], b => rfl
  | x :: r, b => by
    rw [List.map_cons, minL, minF, Ord'.data]
    cases lt x b
    · exact minL_e r b
    · exact minL_e r x
theorem minable_e [Shal α] [Ord' α] (x : α) (xs : List α) (hl : xs.length < lim) : minable ((x :: xs).map e) = true := by
  unfold minable
  rw [Bool.and_eq_true, Bool.and_eq_true, Bool.and_eq_true]
  refine ⟨⟨⟨?_, rfl⟩, ?_⟩, ?_⟩
  · rw [List.all_eq_true]
    intro a ha
    rw [List.all_eq_true]
    intro b hb
    obtain ⟨x, _, rfl⟩ := List.mem_map.mp ha
    obtain ⟨y, _, rfl⟩ := List.mem_map.mp hb
    exact Ord'.alk x y
  · rw [List.length_map, decide_eq_true_eq, List.length_cons]
    omega
  · rw [List.all_eq_true]
    intro a ha
    obtain ⟨x, _, rfl⟩ := List.mem_map.mp ha
    have := dep20 x
    have z2 := Ord'.nn x
    rw [Enc.lay, Bool.and_true, Bool.and_eq_true, decide_eq_true_eq]
    refine ⟨?_, by omega⟩
    cases q : (e x : PyData) with
    | none => exact absurd q z2
    | _ => rfl
theorem min_list [Shal α] [Ord' α] (x : α) (xs : List α) (hl : xs.length < lim) : bi1D .min (.list ((x :: xs).map e)) = some (e (minF xs x)) := by
  show (if minable ((x :: xs).map e) = true then some (minD ((x :: xs).map e)) else none) = _
  rw [if_pos (minable_e x xs hl)]
  show some (minL (xs.map e) (e x)) = _
  rw [minL_e]
theorem min_two [Shal α] [Ord' α] (x y : α) : mn2D (e x) (e y) = some (e (if lt y x then y else x)) := by
  unfold mn2D
  have h : minable [e x, e y] = true := minable_e x [y] (by show 1 < 1000000; omega)
  rw [if_pos h]
  exact congrArg some (minL_e [y] x)
end
/-! ### numbers, rows, pairs -/
instance : Enc Int where
  e := .int
  eqv := fun a b => by simp only [PyData.eqv]; rw [Bool.eq_iff_iff]; simp
  lay := fun a => by simp [PyData.canLay0]
  dp := 0
  dep := fun a => by simp [PyData.depth]
  nod := fun a q h => by cases h
instance : Ord' Int where
  lt := fun a b => decide (a < b)
  ok := fun _ => true
  tup := false
  data := fun a b => PySem.W.dataLt_int a b
  alk := fun a b => by show PySem.W.alike (.int a) (.int b) = true; simp [PySem.W.alike]
  nn := fun a h => by cases h
  kt := fun h => by cases h
  kn := fun _ a xs h => by cases h
  tri := fun a b => by simp only [decide_eq_true_eq]; omega
  irr := fun a => by simp
  trans := fun a b c => by simp only [decide_eq_true_eq]; omega
instance : Enc (List Int) where
  e := iT
  eqv := eqv_row
  lay := fun a => by simp [PyData.canLay0, lay_ints]
  dp := 1
  dep := fun a => by simp [PyData.depth, PySem.W.depth_ints]
  nod := fun a q h => by cases h
instance : Ord' (List Int) where
  lt := fun a b => decide (a < b)
  ok := fun v => !v.isEmpty
  tup := true
  data := dataLt_row
  alk := fun a b => by show PySem.W.alike (iT a) (iT b) = true; simp [PySem.W.alike, PySem.W.alike_ints]
  nn := fun a h => by cases h
  kt := fun _ a h => by
    cases a with
    | nil => cases h
    | cons x r => exact ⟨.int x, r.map .int, rfl⟩
  kn := fun h => by cases h
  tri := fun a b => by simp only [decide_eq_true_eq]; exact row_tri a b
  irr := fun a => by simp [List.lt_irrefl]
  trans := fun a b c => by simp only [decide_eq_true_eq]; exact List.lt_trans
instance : Key' (List Int) where
  key := isKey_row
instance : Enc Unit where
  e := fun _ => .none
  eqv := fun a b => by simp [PyData.eqv]
  lay := fun a => by simp [PyData.canLay0]
  dp := 0
  dep := fun a => by simp [PyData.depth]
  nod := fun a q h => by cases h
instance : Enc Bool where
  e := .bool
  eqv := fun a b => by cases a <;> cases b <;> simp [PyData.eqv]
  lay := fun a => by simp [PyData.canLay0]
  dp := 0
  dep := fun a => by simp [PyData.depth]
  nod := fun a q h => by cases h
instance : Enc String where
  e := fun s => .str (Str.ofString s)
  eqv := fun a b => by simp only [PyData.eqv, str_beq]
  lay := fun a => by simp [PyData.canLay0, str_ok]
  dp := 0
  dep := fun a => by simp [PyData.depth]
  nod := fun a q h => by cases h
section
variable {α β : Type} [DecidableEq α] [DecidableEq β] [Enc α] [Enc β]
instance : Enc (α × β) where
  e := fun p => .tuple [e p.1, e p.2]
  eqv := fun a b => by
    simp only [PyData.eqv, PyData.eqvAll, Enc.eqv, Bool.and_true]
    rw [Bool.eq_iff_iff, Bool.and_eq_true, decide_eq_true_eq, decide_eq_true_eq, decide_eq_true_eq]
    exact Prod.ext_iff.symm
  lay := fun a => by simp [PyData.canLay0, PyData.canLayAll0, Enc.lay]
  dp := max (Enc.dp α) (Enc.dp β) + 1
  dep := fun a => by
    have h1 := Enc.dep a.1
    have h2 := Enc.dep a.2
    simp only [PyData.depth, PyData.depthAll]
    omega
  nod := fun a q h => by cases h
theorem e_pair (p : α × β) : e p = .tuple [e p.1, e p.2] := rfl
instance [Ord' α] [Ord' β] : Ord' (α × β) where
  lt := fun a b => lt a.1 b.1 || (decide (a.1 = b.1) && lt a.2 b.2)
  ok := fun _ => true
  tup := true
  data := fun a b => by
    rw [e_pair, e_pair, PySem.W.dataLt_pair (Ord'.alk _ _) (Ord'.alk _ _), Enc.eqv, Enc.eqv, Ord'.data, Ord'.data]
    by_cases h : a.1 = b.1
    · rw [h]
      simp only [decide_true, if_true, Bool.true_and, Ord'.irr, Bool.false_or]
      by_cases h2 : a.2 = b.2
      · rw [h2]
        simp [Ord'.irr]
      · simp [h2]
    · simp [h]
  alk := fun a b => by
    show PySem.W.alike (.tuple [e a.1, e a.2]) (.tuple [e b.1, e b.2]) = true
    simp [PySem.W.alike, PySem.W.alikeAll, Ord'.alk]
  nn := fun a h => by cases h
  kt := fun _ a h => ⟨_, _, rfl⟩
  kn := fun h => by cases h
  tri := fun a b => by
    rcases Ord'.tri a.1 b.1 with h | h | h
    · left
      simp [h]
    · rcases Ord'.tri a.2 b.2 with h2 | h2 | h2
      · left
        simp [h, h2]
      · right; left
        exact Prod.ext h h2
      · right; right
        simp [h, h2]
    · right; right
      simp [h]
  irr := fun a => by simp [Ord'.irr]
  trans := fun a b c => by
    simp only [Bool.or_eq_true, Bool.and_eq_true, decide_eq_true_eq]
    rintro (h1 | ⟨h1, h2⟩) (h3 | ⟨h3, h4⟩)
    · exact .inl (Ord'.trans _ _ _ h1 h3)
    · exact .inl (by rw [← h3]; exact h1)
    · exact .inl (by rw [h1]; exact h3)
    · exact .inr ⟨h1.trans h3, Ord'.trans _ _ _ h2 h4⟩
end
instance : Shal Int := ⟨by decide⟩
instance : Shal (List Int) := ⟨by decide⟩
instance : Shal Bool := ⟨by decide⟩
instance : Shal Unit := ⟨by decide⟩
instance : Shal String := ⟨by decide⟩
instance : Shal (List Int × List Int) := ⟨by decide⟩
instance : Shal (List Int × Int) := ⟨by decide⟩
instance : Shal (Unit × List Int) := ⟨by decide⟩
instance : Shal (List Int × (List Int × List Int)) := ⟨by decide⟩
/-! ### keys that are pairs of rows -/
theorem toKeys_row (v : List Int) : (PySem.NestedKey.tup (toKeys (v.map .int))).depth = 1 := by
  rw [PySem.NestedKey.depth, keys_depth]
instance : Key' (List Int × List Int) where
  key := fun p => by
    show (isKeyAll [iT p.1, iT p.2] && decide ((PySem.NestedKey.tup (toKeys [iT p.1, iT p.2])).depth ≤ 8)) = true
    rw [Bool.and_eq_true, decide_eq_true_eq]
    refine ⟨by simp [isKeyAll, keys_all_ints], ?_⟩
    simp only [toKeys, toKey, PySem.NestedKey.depth, PySem.NestedKey.depthAll, keys_depth]
    decide
/-! ### dicts -/
section
variable {α β : Type} [DecidableEq α] [Enc α]
/-- a dict's pairs -/
abbrev dE (v : β → PyData) (kvs : List (α × β)) : List (PyData × PyData) := kvs.map fun p => (e p.1, v p.2)
theorem dE_cons (v : β → PyData) (p : α × β) (r : List (α × β)) : dE v (p :: r) = (e p.1, v p.2) :: dE v r := rfl
def alook (kvs : List (α × β)) (k : α) : Option β := (kvs.find? fun p => decide (p.1 = k)).map (·.2)
def aput (k : α) (v : β) : List (α × β) → List (α × β)
  | [] => [(k, v)]
  | p :: r => if p.1 = k then (p.1, v) :: r else p :: aput k v r
theorem dlook_e (v : β → PyData) (kvs : List (α × β)) (k : α) : dlook (dE v kvs) (e k) = (alook kvs k).map v := by
  unfold dlook alook
  induction kvs with
  | nil => rfl
  | cons p r ih =>
    rw [dE_cons, List.find?_cons, List.find?_cons, Enc.eqv]
    by_cases h : p.1 = k
    · simp [h]
    · simp only [h, decide_false]
      exact ih
theorem dput_e (v : β → PyData) (k : α) (x : β) : ∀ kvs : List (α × β), dput (e k) (v x) (dE v kvs) = dE v (aput k x kvs)
  | [] => rfl
  | p :: r => by
    rw [dE_cons, dput, aput, Enc.eqv]
    by_cases h : p.1 = k
    · simp [h]
    · simp only [h, decide_false, Bool.false_eq_true, if_false]
      rw [dput_e v k x r]
      rfl
theorem alook_nil (k : α) : alook ([] : List (α × β)) k = none := rfl
theorem alook_aput (k k' : α) (x : β) : ∀ kvs : List (α × β), alook (aput k x kvs) k' = if k = k' then some x else alook kvs k'
  | [] => by
    unfold alook aput
    by_cases h : k = k' <;> simp [h]
  | p :: r => by
    have ih := alook_aput k k' x r
    unfold alook at ih ⊢
    unfold aput
    by_cases h : p.1 = k
    · rw [if_pos h]
      by_cases h2 : k = k'
      · simp [h, h2]
      · have h3 : ¬ p.1 = k' := fun z => h2 (h.symm.trans z)
        simp [h2, h3]
    · rw [if_neg h]
      by_cases h3 : p.1 = k'
      · have h4 : ¬ k = k' := fun z => h (h3.trans z.symm)
        simp [h3, h4]
      · simp only [List.find?_cons, h3, decide_false]
        exact ih
theorem alook_some {kvs : List (α × β)} {k : α} {x : β} (h : alook kvs k = some x) : (k, x) ∈ kvs := by
  unfold alook at h
  cases q : kvs.find? fun p => decide (p.1 = k) with
  | none => rw [q] at h; cases h
  | some p =>
    rw [q] at h
    cases Option.some.inj h
    have h1 := List.find?_some q
    have h2 := List.mem_of_find?_eq_some q
    simp only [decide_eq_true_eq] at h1
    rw [← h1]
    exact h2
theorem alook_isSome {kvs : List (α × β)} {k : α} : (alook kvs k).isSome = true ↔ k ∈ kvs.map (·.1) := by
  unfold alook
  rw [Option.isSome_map, List.find?_isSome]
  simp [List.mem_map]
theorem alook_none {kvs : List (α × β)} {k : α} : alook kvs k = none ↔ k ∉ kvs.map (·.1) := by
  rw [← alook_isSome]
  cases alook kvs k <;> simp
theorem aput_keys (k : α) (x : β) : ∀ kvs : List (α × β), (aput k x kvs).map (·.1) = if k ∈ kvs.map (·.1) then kvs.map (·.1) else kvs.map (·.1) ++ [k]
  | [] => by simp [aput]
  | p :: r => by
    have ih := aput_keys k x r
    unfold aput
    by_cases h : p.1 = k
    · rw [if_pos h]
      simp [h]
    · rw [if_neg h]
      have h2 : ¬ k = p.1 := fun z => h z.symm
      rw [List.map_cons, ih, List.map_cons]
      by_cases h3 : k ∈ r.map (·.1)
      · rw [if_pos h3, if_pos (List.mem_cons_of_mem _ h3)]
      · rw [if_neg h3, if_neg (by rw [List.mem_cons]; rintro (z | z); exact h2 z; exact h3 z)]
        rfl
theorem aput_len (k : α) (x : β) (kvs : List (α × β)) : (aput k x kvs).length = if k ∈ kvs.map (·.1) then kvs.length else kvs.length + 1 := by
  have h := congrArg List.length (aput_keys k x kvs)
  rw [List.length_map] at h
  rw [h]
  split <;> simp
theorem aput_nodup {k : α} {x : β} {kvs : List (α × β)} (h : (kvs.map (·.1)).Nodup) : ((aput k x kvs).map (·.1)).Nodup := by
  rw [aput_keys]
  split
  · exact h
  · rename_i h2
    rw [List.nodup_append]
    refine ⟨h, by simp, fun a ha b hb => ?_⟩
    rw [List.mem_singleton] at hb
    subst hb
    rintro rfl
    exact h2 ha
theorem aput_mem {k k' : α} {x : β} {kvs : List (α × β)} : k' ∈ (aput k x kvs).map (·.1) ↔ k' ∈ kvs.map (·.1) ∨ k' = k := by
  rw [aput_keys]
  split
  · rename_i h
    constructor
    · exact .inl
    · rintro (z | rfl)
      · exact z
      · exact h
  · simp
theorem alook_of_mem {kvs : List (α × β)} (h : (kvs.map (·.1)).Nodup) {k : α} {x : β} (hm : (k, x) ∈ kvs) : alook kvs k = some x := by
  induction kvs with
  | nil => cases hm
  | cons p r ih =>
    rw [List.map_cons, List.nodup_cons] at h
    unfold alook
    rw [List.find?_cons]
    rcases List.mem_cons.mp hm with z | z
    · subst z
      simp
    · have : ¬ p.1 = k := fun q => h.1 (by rw [q]; exact List.mem_map.mpr ⟨(k, x), z, rfl⟩)
      simp only [this, decide_false]
      exact ih h.2 z
end
end Rh

set_option Elab.async false
set_option linter.all false
set_option maxRecDepth 100000
set_option maxHeartbeats 1000000
/-! Comprehensions over things. -/
namespace Rh
open PySem (PyData Str)
section
variable {g : Str → Option PyData} {f : Str → List PyData → Res PyData} {t : Tg} {it : IT} {c el : DE} {δ : Ev} {α β : Type} {ea : α → PyData} {eb : β → PyData}
theorem lcLoop_mapE {body : PyData → Option (Option PyData)} {F : α → β} : ∀ {xs : List α}, (∀ x ∈ xs, body (ea x) = some (some (eb (F x)))) → lcLoop body (xs.map ea) = some ((xs.map F).map eb)
  | [], _ => rfl
  | x :: r, h => by
    have ih := lcLoop_mapE (xs := r) fun y hy => h y (List.mem_cons_of_mem _ hy)
    show (body (ea x)).bind _ = _
    rw [h x List.mem_cons_self, ih]
    rfl
theorem lcLoop_filterE {body : PyData → Option (Option PyData)} {F : α → β} {p : α → Bool} : ∀ {xs : List α}, (∀ x ∈ xs, body (ea x) = if p x then some (some (eb (F x))) else some none) → lcLoop body (xs.map ea) = some (((xs.filter p).map F).map eb)
  | [], _ => rfl
  | x :: r, h => by
    have ih := lcLoop_filterE (xs := r) fun y hy => h y (List.mem_cons_of_mem _ hy)
    show (body (ea x)).bind _ = _
    rw [h x List.mem_cons_self, ih, List.filter_cons]
    cases p x <;> rfl
theorem lcT_body {c : DO} {x : PyData} {y : Option PyData} (h : lcT g f t c el δ x = .ok y) : ((setTg t x (wipeTg t δ)).bind fun δ' => (okO (evc g f c δ')).bind fun k => if k then (okO (ev g f el δ')).map some else some none) = some y := by
  unfold lcT at h
  cases e1 : setTg t x (wipeTg t δ) with
  | none =>
    rw [e1] at h
    cases h
  | some δ' =>
    rw [e1] at h
    simp only at h
    cases e2 : evc g f c δ' with
    | ok k =>
      rw [e2] at h
      show (okO (evc g f c δ')).bind _ = _
      rw [e2]
      cases k with
      | true =>
        simp only [bind_ok, if_true] at h
        cases e3 : ev g f el δ' with
        | ok z =>
          rw [e3] at h
          simp only [bind_ok] at h
          injection h with h
          rw [← h]
          rfl
        | err c =>
          rw [e3] at h
          cases h
        | stuck =>
          rw [e3] at h
          cases h
      | false =>
        simp only [bind_ok] at h
        injection h with h
        rw [← h]
        rfl
    | err c =>
      rw [e2] at h
      cases h
    | stuck =>
      rw [e2] at h
      cases h
theorem lc_map (F : α → β) (xs : List α) (hi : evi g f it δ = .ok (xs.map ea)) (hl : xs.length ≤ lim) (hb : ∀ x ∈ xs, lcT g f t .no el δ (ea x) = .ok (some (eb (F x)))) :
    ev g f (.lc t it .no el) δ = .ok (.list ((xs.map F).map eb)) := by
  simp only [ev]
  rw [hi]
  show Res.ofO _ = _
  rw [lcLoop_mapE (F := F) (ea := ea) (eb := eb) fun x hx => lcT_body (hb x hx)]
  show Res.ofO (if (xs.map ea).length ≤ lim then _ else _) = _
  rw [List.length_map, if_pos hl]
  rfl
theorem lc_filter (p : α → Bool) (F : α → β) (xs : List α) (hi : evi g f it δ = .ok (xs.map ea)) (hl : xs.length ≤ lim)
    (hb : ∀ x ∈ xs, lcT g f t (.some c) el δ (ea x) = if p x then .ok (some (eb (F x))) else .ok none) :
    ev g f (.lc t it (.some c) el) δ = .ok (.list (((xs.filter p).map F).map eb)) := by
  simp only [ev]
  rw [hi]
  show Res.ofO _ = _
  rw [lcLoop_filterE (F := F) (p := p) (ea := ea) (eb := eb) fun x hx => ?_]
  · show Res.ofO (if (xs.map ea).length ≤ lim then _ else _) = _
    rw [List.length_map, if_pos hl]
    rfl
  · have h := hb x hx
    cases hp : p x with
    | true =>
      rw [hp, if_pos rfl] at h
      rw [if_pos rfl]
      exact lcT_body h
    | false =>
      rw [hp, if_neg Bool.false_ne_true] at h
      rw [if_neg Bool.false_ne_true]
      exact lcT_body h
end
theorem lim_of {n : Nat} (h : n ≤ 1000000) : n ≤ lim := h
theorem lim_lt' {n : Nat} (h : n < 1000000) : n < lim := h
/-- range, as numbers -/
theorem rangeD_nat (n : Nat) : rangeD 0 n = (List.range n).map fun (j : Nat) => PyData.int j := by
  unfold rangeD
  have z : ((n : Int) - 0).toNat = n := by omega
  rw [z]
  exact List.map_congr_left fun j _ => by simp
theorem rangeD_from (i n : Nat) (h : i ≤ n) : rangeD i n = (List.range' i (n - i)).map fun (j : Nat) => PyData.int j := by
  unfold rangeD
  have z : ((n : Int) - (i : Int)).toNat = n - i := by omega
  rw [z, List.range'_eq_map_range, List.map_map]
  exact List.map_congr_left fun j _ => by simp
end Rh

set_option linter.all false
set_option maxRecDepth 100000
/-! Core code, printed by gen.py. -/
namespace Rh
namespace Cd
open PySem (Str)
def b_move_for_0 : List DS := [.ite (.cmp .Eq (.ix (.var 2) (.int 0)) (.var 1)) [.ret (.ix (.var 2) (.int 1))] []]
def d_move_for : Df := ⟨2, 3, [
  .for (.one 2) (.seq (.ix (.var 0) (.int 2))) b_move_for_0,
  .ret (.str (Str.ofString "stay"))]⟩
def d_wish_at : Df := ⟨3, 7, [
  .set 3 (.ix (.var 0) (.int 0)),
  .set 4 (.call (Str.ofString "view_at") (.cons (.var 3) (.cons (.ix (.var 0) (.int 1)) (.cons (.var 1) (.cons (.var 2) .nil))))),
  .set 5 (.call (Str.ofString "move_for") (.cons (.var 0) (.cons (.var 4) .nil))),
  .ite (.cmp .Eq (.var 5) (.str (Str.ofString "stay"))) [.ret (.lst (.cons (.var 2) .nil))] [],
  .ite (.cmp .Eq (.var 4) (.call (Str.ofString "turned_view") (.cons (.var 4) .nil))) [.ret (.bi1 .sorted (.lst (.cons (.bin .Mod (.bin .Add (.var 2) (.int 1)) (.var 3)) (.cons (.bin .Mod (.bin .Sub (.var 2) (.int 1)) (.var 3)) .nil))))] [],
  .set 6 (.ite (.cmp .Eq (.call (Str.ofString "seen_along") (.cons (.var 3) (.cons (.ix (.var 0) (.int 1)) (.cons (.var 1) (.cons (.var 2) (.cons (.int 1) .nil)))))) (.var 4)) (.int 1) (.neg 1)),
  .ite (.cmp .Eq (.var 5) (.str (Str.ofString "back"))) [.set 6 (.bin .Sub (.int 0) (.var 6))] [],
  .ret (.lst (.cons (.bin .Mod (.bin .Add (.var 2) (.var 6)) (.var 3)) .nil))]⟩
def d_wishes : Df := ⟨3, 3, [
  .expr (.call (Str.ofString "view") (.cons (.var 0) (.cons (.var 1) (.cons (.var 2) .nil)))),
  .ret (.call (Str.ofString "wish_at") (.cons (.var 0) (.cons (.var 1) (.cons (.ix (.var 1) (.var 2)) .nil))))]⟩
def c_is_still_0 : DE := .lc (.one 2) (.seq (.var 1)) (.some (.cmp .NotEq (.call (Str.ofString "wish_at") (.cons (.var 0) (.cons (.var 1) (.cons (.var 2) .nil)))) (.lst (.cons (.var 2) .nil)))) (.var 2)
def d_is_still : Df := ⟨2, 3, [
  .ret (.nt c_is_still_0)]⟩
def d_still : Df := ⟨2, 2, [
  .expr (.call (Str.ofString "look") (.cons (.var 0) (.cons (.var 1) .nil))),
  .ret (.call (Str.ofString "is_still") (.cons (.var 0) (.cons (.var 1) .nil)))]⟩
def c_law_wish_0 : DE := .lc (.one 10) (.seq (.var 9)) (.some (.cmp .Eq (.ix (.var 10) (.int 0)) (.mn2 (.var 3) (.var 4)))) (.ix (.var 10) (.int 1))
def c_law_wish_1 : DE := .lc (.one 11) (.seq (.var 6)) .no (.bin .Mod (.bin .Add (.var 2) (.var 11)) (.var 7))
def d_law_wish : Df := ⟨3, 12, [
  .setT [7, 8, 9] (.var 0),
  .set 3 (.call (Str.ofString "_law_row") (.cons (.var 7) (.cons (.var 8) (.cons (.var 1) (.cons (.var 2) (.cons (.int 1) .nil)))))),
  .set 4 (.call (Str.ofString "_law_row") (.cons (.var 7) (.cons (.var 8) (.cons (.var 1) (.cons (.var 2) (.cons (.neg 1) .nil)))))),
  .set 5 c_law_wish_0,
  .ite (.cmp .Eq (.var 5) (.lst .nil)) [.ret (.lst (.cons (.var 2) .nil))] [],
  .set 6 (.lst (.cons (.int 1) (.cons (.neg 1) .nil))),
  .ite (.cmp .Lt (.var 3) (.var 4)) [.set 6 (.lst (.cons (.disp [(Str.ofString "on"), (Str.ofString "back")] (.cons (.int 1) (.cons (.neg 1) .nil)) (.ix (.var 5) (.int 0))) .nil))] [],
  .ite (.cmp .Lt (.var 4) (.var 3)) [.set 6 (.lst (.cons (.disp [(Str.ofString "on"), (Str.ofString "back")] (.cons (.neg 1) (.cons (.int 1) .nil)) (.ix (.var 5) (.int 0))) .nil))] [],
  .ret (.bi1 .sorted c_law_wish_1)]⟩
def c_law_still_0 : DE := .lc (.one 2) (.seq (.var 1)) (.some (.cmp .NotEq (.call (Str.ofString "_law_wish") (.cons (.var 0) (.cons (.var 1) (.cons (.var 2) .nil)))) (.lst (.cons (.var 2) .nil)))) (.var 2)
def d_law_still : Df := ⟨2, 3, [
  .ret (.cmp .Eq c_law_still_0 (.lst .nil))]⟩
def d_law_k04 : Df := ⟨1, 8, [
  .set 1 (.call (Str.ofString "_law_book") (.cons (.var 0) (.cons (.int 2) .nil))),
  .setT [6, 7] (.call (Str.ofString "_law_many") (.cons (.var 0) (.cons (.int 2) .nil))),
  .set 2 (.call (Str.ofString "_law_stand") (.cons (.var 0) (.cons (.int 4) (.cons (.var 6) (.cons (.var 7) .nil))))),
  .set 3 (.bin .Mod (.call (Str.ofString "_law_cell") (.cons (.var 0) (.cons (.int 0) .nil))) (.var 7)),
  .set 4 (.call (Str.ofString "wishes") (.cons (.var 1) (.cons (.var 2) (.cons (.var 3) .nil)))),
  .ite (.bop .Or (.cons (.nt (.isi (.var 4) "list")) (.cons (.cmp .NotEq (.var 4) (.call (Str.ofString "_law_wish") (.cons (.var 1) (.cons (.var 2) (.cons (.ix (.var 2) (.var 3)) .nil))))) .nil))) [.ret (.bl false)] [],
  .set 5 (.call (Str.ofString "still") (.cons (.var 1) (.cons (.var 2) .nil))),
  .ret (.bop .And (.cons (.isi (.var 5) "bool") (.cons (.cmp .Eq (.var 5) (.call (Str.ofString "_law_still") (.cons (.var 1) (.cons (.var 2) .nil)))) .nil)))]⟩
def d_look_order : Df := ⟨1, 1, [
  .ite (.bop .Or (.cons (.nt (.isi (.var 0) "str")) (.cons (.inG true (.var 0) (Str.ofString "ORDERS")) .nil))) [.raise (Str.ofString "BadOrder") (Str.ofString "no order")] []]⟩
def c_groups_0 : DE := .lc (.one 3) (.rng1 (.var 0)) .no (.tup (.cons (.var 3) .nil))
def c_groups_1 : DE := .lc (.one 4) (.seq (.var 2)) .no (.bin .Add (.var 4) (.tup (.cons (.var 3) .nil)))
def b_groups_0 : List DS := [.set 2 (.bin .Add (.var 2) c_groups_1)]
def c_groups_2 : DE := .lc (.one 4) (.seq (.var 2)) (.some (.var 4)) (.var 4)
def d_groups : Df := ⟨2, 5, [
  .ite (.cmp .Eq (.var 1) (.str (Str.ofString "one"))) [.ret c_groups_0] [],
  .ite (.cmp .Eq (.var 1) (.str (Str.ofString "all"))) [.ret (.lst (.cons (.tupRg (.var 0)) .nil))] [],
  .set 2 (.lst (.cons (.tup .nil) .nil)),
  .for (.one 3) (.rng1 (.var 0)) b_groups_0,
  .ret c_groups_2]⟩
def b_moved_by_0 : List DS := [.set 6 (.lst (.cons (.var 5) .nil)), .ite (.cmp .In (.var 4) (.var 2)) [.set 6 (.call (Str.ofString "wish_at") (.cons (.var 0) (.cons (.var 1) (.cons (.var 5) .nil))))] [], .set 3 (.call (Str.ofString "both") (.cons (.var 3) (.cons (.var 6) .nil)))]
def d_moved_by : Df := ⟨3, 7, [
  .set 3 (.lst (.cons (.tup .nil) .nil)),
  .for (.many [4, 5]) (.enm (.var 1)) b_moved_by_0,
  .ret (.var 3)]⟩
def c_both_0 : DE := .lc (.one 4) (.seq (.var 1)) .no (.bin .Add (.var 3) (.tup (.cons (.var 4) .nil)))
def b_both_0 : List DS := [.ext 2 c_both_0]
def d_both : Df := ⟨2, 5, [
  .newL 2 .nil,
  .for (.one 3) (.seq (.var 0)) b_both_0,
  .frz 2,
  .ret (.var 2)]⟩
def b_acts_from_0 : List DS := [.dput 3 (.tup (.cons (.var 4) (.cons (.var 5) .nil))) (.bl true)]
def b_acts_from_1 : List DS := [.for (.one 5) (.seq (.call (Str.ofString "moved_by") (.cons (.var 0) (.cons (.var 1) (.cons (.var 4) .nil))))) b_acts_from_0]
def d_acts_from : Df := ⟨3, 6, [
  .newD 3,
  .for (.one 4) (.seq (.call (Str.ofString "groups") (.cons (.bi1 .len (.var 1)) (.cons (.var 2) .nil)))) b_acts_from_1,
  .frz 3,
  .ret (.bi1 .sorted (.var 3))]⟩
def d_look_acts : Df := ⟨3, 3, [
  .expr (.call (Str.ofString "look") (.cons (.var 0) (.cons (.var 1) .nil))),
  .expr (.call (Str.ofString "look_order") (.cons (.var 2) .nil))]⟩
def d_acts : Df := ⟨3, 3, [
  .expr (.call (Str.ofString "look_acts") (.cons (.var 0) (.cons (.var 1) (.cons (.var 2) .nil)))),
  .ret (.call (Str.ofString "acts_from") (.cons (.var 0) (.cons (.var 1) (.cons (.var 2) .nil))))]⟩
def c_changes_from_0 : DE := .lc (.many [3, 4]) (.seq (.call (Str.ofString "acts_from") (.cons (.var 0) (.cons (.var 1) (.cons (.var 2) .nil))))) (.some (.cmp .NotEq (.var 4) (.var 1))) (.var 4)
def d_changes_from : Df := ⟨3, 5, [
  .ret (.sset c_changes_from_0)]⟩
def d_changes : Df := ⟨3, 3, [
  .expr (.call (Str.ofString "look_acts") (.cons (.var 0) (.cons (.var 1) (.cons (.var 2) .nil)))),
  .ret (.call (Str.ofString "changes_from") (.cons (.var 0) (.cons (.var 1) (.cons (.var 2) .nil))))]⟩
def c_law_acts_0 : DE := .lc (.one 8) (.rng1 (.bi1 .len (.var 1))) (.some (.cmp .Eq (.bin .BitAnd (.bin .RShift (.var 4) (.var 8)) (.int 1)) (.int 1))) (.var 8)
def c_law_acts_1 : DE := .lc (.one 12) (.seq (.var 10)) .no (.bin .Add (.var 7) (.tup (.cons (.var 12) .nil)))
def b_law_acts_0 : List DS := [.set 11 (.bin .Add (.var 11) c_law_acts_1)]
def b_law_acts_1 : List DS := [.set 10 (.lst (.cons (.var 9) .nil)), .ite (.cmp .In (.var 8) (.var 5)) [.set 10 (.call (Str.ofString "_law_wish") (.cons (.var 0) (.cons (.var 1) (.cons (.var 9) .nil))))] [], .set 11 (.lst .nil), .for (.one 7) (.seq (.var 6)) b_law_acts_0, .set 6 (.var 11)]
def b_law_acts_2 : List DS := [.dput 3 (.tup (.cons (.var 5) (.cons (.var 7) .nil))) (.bl true)]
def b_law_acts_3 : List DS := [.set 5 (.bi1 .tuple c_law_acts_0), .ite (.bop .Or (.cons (.cmp .Eq (.var 2) (.str (Str.ofString "some"))) (.cons (.bop .And (.cons (.cmp .Eq (.var 2) (.str (Str.ofString "one"))) (.cons (.cmp .Eq (.bi1 .len (.var 5)) (.int 1)) .nil))) (.cons (.bop .And (.cons (.cmp .Eq (.var 2) (.str (Str.ofString "all"))) (.cons (.cmp .Eq (.bi1 .len (.var 5)) (.bi1 .len (.var 1))) .nil))) .nil)))) [.set 6 (.lst (.cons (.tup .nil) .nil)), .for (.many [8, 9]) (.enm (.var 1)) b_law_acts_1, .for (.one 7) (.seq (.var 6)) b_law_acts_2] []]
def d_law_acts : Df := ⟨3, 13, [
  .newD 3,
  .for (.one 4) (.rng2 (.int 1) (.bin .LShift (.int 1) (.bi1 .len (.var 1)))) b_law_acts_3,
  .frz 3,
  .ret (.bi1 .sorted (.var 3))]⟩
def c_law_changes_0 : DE := .lc (.many [3, 4]) (.seq (.call (Str.ofString "_law_acts") (.cons (.var 0) (.cons (.var 1) (.cons (.var 2) .nil))))) (.some (.cmp .NotEq (.var 4) (.var 1))) (.var 4)
def d_law_changes : Df := ⟨3, 5, [
  .ret (.sset c_law_changes_0)]⟩
def d_law_k05 : Df := ⟨1, 9, [
  .set 1 (.call (Str.ofString "_law_book") (.cons (.var 0) (.cons (.int 2) .nil))),
  .setT [7, 8] (.call (Str.ofString "_law_many") (.cons (.var 0) (.cons (.int 2) .nil))),
  .set 2 (.call (Str.ofString "_law_stand") (.cons (.var 0) (.cons (.int 4) (.cons (.var 7) (.cons (.var 8) .nil))))),
  .set 3 (.ix (.lst (.cons (.str (Str.ofString "one")) (.cons (.str (Str.ofString "some")) (.cons (.str (Str.ofString "all")) .nil)))) (.bin .Mod (.call (Str.ofString "_law_cell") (.cons (.var 0) (.cons (.int 0) .nil))) (.int 3))),
  .set 4 (.call (Str.ofString "_law_acts") (.cons (.var 1) (.cons (.var 2) (.cons (.var 3) .nil)))),
  .set 5 (.call (Str.ofString "acts") (.cons (.var 1) (.cons (.var 2) (.cons (.var 3) .nil)))),
  .ite (.bop .Or (.cons (.nt (.isi (.var 5) "list")) (.cons (.cmp .NotEq (.var 5) (.var 4)) .nil))) [.ret (.bl false)] [],
  .set 6 (.call (Str.ofString "changes") (.cons (.var 1) (.cons (.var 2) (.cons (.var 3) .nil)))),
  .ret (.bop .And (.cons (.isi (.var 6) "list") (.cons (.cmp .Eq (.var 6) (.call (Str.ofString "_law_changes") (.cons (.var 1) (.cons (.var 2) (.cons (.var 3) .nil))))) .nil)))]⟩
def c_played_0 : DE := .lc (.one 5) (.seq (.var 3)) (.some (.nt (.call (Str.ofString "is_within") (.cons (.var 5) (.cons (.int 0) (.cons (.int 9999) .nil)))))) (.var 5)
def b_played_0 : List DS := [.set 6 (.call (Str.ofString "acts_from") (.cons (.var 0) (.cons (.var 1) (.cons (.var 2) .nil)))), .app 4 (.ix (.var 6) (.bin .Mod (.var 5) (.bi1 .len (.var 6)))), .set 1 (.ix (.ixO 4 (.neg 1)) (.int 1))]
def d_played : Df := ⟨4, 7, [
  .expr (.call (Str.ofString "look_acts") (.cons (.var 0) (.cons (.var 1) (.cons (.var 2) .nil)))),
  .ite (.bop .Or (.cons (.nt (.isi (.var 3) "list")) (.cons c_played_0 .nil))) [.raise (Str.ofString "BadPicks") (Str.ofString "no picks")] [],
  .newL 4 .nil,
  .for (.one 5) (.seq (.var 3)) b_played_0,
  .frz 4,
  .ret (.var 4)]⟩
def d_law_told_k06 : Df := ⟨4, 5, [
  .tryE (.ret (.call (Str.ofString "played") (.cons (.var 0) (.cons (.var 1) (.cons (.var 2) (.cons (.var 3) .nil)))))) [(Str.ofString "BadBook"), (Str.ofString "BadOrder"), (Str.ofString "BadPicks"), (Str.ofString "BadStand")] (Str.ofString "HandError") 4 [.ret (.isl [(Str.ofString "BadPicks"), (Str.ofString "ValueError")])]]⟩
def c_law_k06_0 : DE := .lc (.one 13) (.rng1 (.bin .Mod (.call (Str.ofString "_law_cell") (.cons (.var 0) (.cons (.int 1) .nil))) (.int 9))) .no (.call (Str.ofString "_law_mix") (.cons (.bin .Add (.call (Str.ofString "_law_cell") (.cons (.var 0) (.cons (.int 2) .nil))) (.bin .Mult (.int 31) (.var 13))) (.cons (.int 9931) (.cons (.int 9000) .nil))))
def b_law_k06_0 : List DS := [.set 12 (.call (Str.ofString "_law_acts") (.cons (.var 1) (.cons (.var 2) (.cons (.var 3) .nil)))), .app 7 (.ix (.var 12) (.bin .Mod (.var 8) (.bi1 .len (.var 12)))), .set 2 (.ix (.ixO 7 (.neg 1)) (.int 1))]
def d_law_k06 : Df := ⟨1, 14, [
  .set 1 (.call (Str.ofString "_law_book") (.cons (.var 0) (.cons (.int 3) .nil))),
  .setT [9, 10] (.call (Str.ofString "_law_many") (.cons (.var 0) (.cons (.int 3) .nil))),
  .set 2 (.call (Str.ofString "_law_stand") (.cons (.var 0) (.cons (.int 5) (.cons (.var 9) (.cons (.var 10) .nil))))),
  .set 3 (.ix (.lst (.cons (.str (Str.ofString "one")) (.cons (.str (Str.ofString "some")) (.cons (.str (Str.ofString "all")) .nil)))) (.bin .Mod (.call (Str.ofString "_law_cell") (.cons (.var 0) (.cons (.int 0) .nil))) (.int 3))),
  .ite (.cmp .Eq (.bin .Mod (.call (Str.ofString "_law_cell") (.cons (.var 0) (.cons (.int 1) .nil))) (.int 4)) (.int 3)) [.set 11 (.ix (.lst (.cons .non (.cons (.tup (.cons (.int 1) .nil)) (.cons (.int 7) (.cons (.lst (.cons .non .nil)) (.cons (.lst (.cons (.neg 1) .nil)) (.cons (.lst (.cons (.int 10000) .nil)) (.cons (.lst (.cons (.bl true) .nil)) (.cons (.lst (.cons (.str (Str.ofString "1")) .nil)) .nil))))))))) (.bin .Mod (.call (Str.ofString "_law_cell") (.cons (.var 0) (.cons (.int 2) .nil))) (.int 8))), .ret (.cmp .Eq (.call (Str.ofString "_law_told") (.cons (.var 1) (.cons (.var 2) (.cons (.var 3) (.cons (.var 11) .nil))))) (.lst (.cons (.bl true) (.cons (.bl true) .nil))))] [],
  .set 4 c_law_k06_0,
  .set 5 (.bi1 .list (.var 4)),
  .set 6 (.call (Str.ofString "_law_told") (.cons (.var 1) (.cons (.var 2) (.cons (.var 3) (.cons (.var 4) .nil))))),
  .newL 7 .nil,
  .for (.one 8) (.seq (.var 5)) b_law_k06_0,
  .frz 7,
  .ret (.bop .And (.cons (.isi (.var 6) "list") (.cons (.cmp .Eq (.var 6) (.var 7)) (.cons (.cmp .Eq (.var 4) (.var 5)) .nil))))]⟩
def d_look_goal : Df := ⟨1, 1, [
  .ite (.bop .Or (.cons (.nt (.isi (.var 0) "str")) (.cons (.inG true (.var 0) (Str.ofString "GOALS")) .nil))) [.raise (Str.ofString "BadGoal") (Str.ofString "no goal")] []]⟩
def b_gaps_0 : List DS := [.ite (.cmp .Lt (.bin .Add (.var 4) (.int 1)) (.bi1 .len (.var 2))) [.app 3 (.bin .Sub (.ix (.var 2) (.bin .Add (.var 4) (.int 1))) (.var 5))] [.app 3 (.bin .Sub (.bin .Add (.ix (.var 2) (.int 0)) (.var 0)) (.var 5))]]
def d_gaps : Df := ⟨2, 6, [
  .set 2 (.bi1 .sorted (.var 1)),
  .newL 3 .nil,
  .for (.many [4, 5]) (.enm (.var 2)) b_gaps_0,
  .frz 3,
  .ret (.var 3)]⟩
def d_is_in : Df := ⟨3, 4, [
  .ite (.cmp .Eq (.var 1) (.str (Str.ofString "evenly"))) [.set 3 (.call (Str.ofString "gaps") (.cons (.ix (.var 0) (.int 0)) (.cons (.var 2) .nil))), .ret (.bop .And (.cons (.cmp .Lt (.bin .Sub (.bi1 .max (.var 3)) (.bi1 .min (.var 3))) (.int 2)) (.cons (.call (Str.ofString "is_still") (.cons (.var 0) (.cons (.var 2) .nil))) .nil)))] [],
  .ite (.cmp .Gt (.lenS (.var 2)) (.int 1)) [.ret (.bl false)] [],
  .ret (.bop .Or (.cons (.cmp .Eq (.var 1) (.str (Str.ofString "met"))) (.cons (.call (Str.ofString "is_still") (.cons (.var 0) (.cons (.var 2) .nil))) .nil)))]⟩
def d_there : Df := ⟨3, 3, [
  .expr (.call (Str.ofString "look") (.cons (.var 0) (.cons (.var 2) .nil))),
  .expr (.call (Str.ofString "look_goal") (.cons (.var 1) .nil)),
  .ret (.call (Str.ofString "is_in") (.cons (.var 0) (.cons (.var 1) (.cons (.var 2) .nil))))]⟩
def c_law_goal_0 : DE := .lc (.one 5) (.rng1 (.bin .Sub (.bi1 .len (.var 3)) (.int 1))) .no (.bin .Sub (.ix (.var 3) (.bin .Add (.var 5) (.int 1))) (.ix (.var 3) (.var 5)))
def d_law_goal : Df := ⟨3, 6, [
  .set 3 (.bi1 .sorted (.var 2)),
  .ite (.cmp .Eq (.var 1) (.str (Str.ofString "evenly"))) [.set 4 (.bin .Add c_law_goal_0 (.lst (.cons (.bin .Sub (.bin .Add (.ix (.var 3) (.int 0)) (.ix (.var 0) (.int 0))) (.ix (.var 3) (.neg 1))) .nil))), .ret (.bop .And (.cons (.cmp .LtE (.bin .Sub (.bi1 .max (.var 4)) (.bi1 .min (.var 4))) (.int 1)) (.cons (.call (Str.ofString "_law_still") (.cons (.var 0) (.cons (.var 2) .nil))) .nil)))] [],
  .ite (.cmp .NotEq (.ix (.var 3) (.int 0)) (.ix (.var 3) (.neg 1))) [.ret (.bl false)] [],
  .ret (.bop .Or (.cons (.cmp .Eq (.var 1) (.str (Str.ofString "met"))) (.cons (.call (Str.ofString "_law_still") (.cons (.var 0) (.cons (.var 2) .nil))) .nil)))]⟩
def c_law_k07_0 : DE := .lc (.one 8) (.rng1 (.var 6)) .no (.bin .Mod (.bin .Add (.ix (.var 2) (.int 0)) (.bin .FloorDiv (.bin .Mult (.var 5) (.var 8)) (.var 6))) (.var 5))
def b_law_k07_0 : List DS := [.set 7 (.call (Str.ofString "there") (.cons (.var 1) (.cons (.var 4) (.cons (.var 2) .nil)))), .ite (.bop .Or (.cons (.nt (.isi (.var 7) "bool")) (.cons (.cmp .NotEq (.var 7) (.call (Str.ofString "_law_goal") (.cons (.var 1) (.cons (.var 4) (.cons (.var 2) .nil))))) .nil))) [.ret (.bl false)] []]
def d_law_k07 : Df := ⟨1, 9, [
  .set 1 (.call (Str.ofString "_law_book") (.cons (.var 0) (.cons (.int 2) .nil))),
  .setT [5, 6] (.call (Str.ofString "_law_many") (.cons (.var 0) (.cons (.int 2) .nil))),
  .set 2 (.call (Str.ofString "_law_stand") (.cons (.var 0) (.cons (.int 4) (.cons (.var 5) (.cons (.var 6) .nil))))),
  .set 3 (.bin .Mod (.call (Str.ofString "_law_cell") (.cons (.var 0) (.cons (.int 0) .nil))) (.int 4)),
  .ite (.cmp .Eq (.var 3) (.int 0)) [.set 2 (.bin .Mult (.sl (.var 2) .no (.some (.int 1))) (.var 6))] [],
  .ite (.cmp .Eq (.var 3) (.int 1)) [.set 2 (.bi1 .tuple c_law_k07_0)] [],
  .for (.one 4) (.seq (.tup (.cons (.str (Str.ofString "met")) (.cons (.str (Str.ofString "together")) (.cons (.str (Str.ofString "evenly")) .nil))))) b_law_k07_0,
  .ret (.bl true)]⟩
def c_images_0 : DE := .lc (.one 4) (.seq (.var 1)) .no (.bin .Mod (.bin .Add (.var 4) (.var 3)) (.var 0))
def c_images_1 : DE := .lc (.one 4) (.seq (.var 1)) .no (.bin .Mod (.bin .Sub (.var 3) (.var 4)) (.var 0))
def b_images_0 : List DS := [.app 2 (.bi1 .tuple (.bi1 .sorted c_images_0)), .app 2 (.bi1 .tuple (.bi1 .sorted c_images_1))]
def d_images : Df := ⟨2, 5, [
  .newL 2 .nil,
  .for (.one 3) (.rng1 (.var 0)) b_images_0,
  .frz 2,
  .ret (.var 2)]⟩
def d_least_like : Df := ⟨2, 2, [
  .expr (.call (Str.ofString "look") (.cons (.var 0) (.cons (.var 1) .nil))),
  .ret (.bi1 .min (.call (Str.ofString "images") (.cons (.ix (.var 0) (.int 0)) (.cons (.var 1) .nil))))]⟩
def c_law_k08_0 : DE := .lc (.one 16) (.rng1 (.var 12)) .no (.tup (.cons (.call (Str.ofString "_law_mix") (.cons (.bin .Add (.bin .Add (.call (Str.ofString "_law_cell") (.cons (.var 0) (.cons (.int 2) .nil))) (.bin .Mult (.bin .Mult (.int 29) (.var 16)) (.var 16))) (.var 16)) (.cons (.int 9923) (.cons (.int 997) .nil)))) (.cons (.var 16) .nil)))
def c_law_k08_1 : DE := .lc (.one 17) (.seq (.bi1 .sorted (.var 6))) .no (.ix (.var 17) (.int 1))
def c_law_k08_2 : DE := .lc (.one 18) (.seq (.var 7)) .no (.bin .Mod (.bin .Add (.var 4) (.bin .Mult (.var 5) (.ix (.var 2) (.var 18)))) (.var 11))
def c_law_k08_3 : DE := .lc (.one 18) (.seq (.var 7)) .no (.bin .Mod (.bin .Add (.var 4) (.bin .Mult (.var 5) (.ix (.var 14) (.var 18)))) (.var 11))
def c_law_k08_4 : DE := .lc (.one 19) (.seq (.var 13)) .no (.idx 7 (.var 19))
def b_law_k08_0 : List DS := [.set 15 (.bi1 .tuple c_law_k08_3), .app 9 (.tup (.cons (.bi1 .tuple (.bi1 .sorted c_law_k08_4)) (.cons (.var 15) .nil)))]
def b_law_k08_1 : List DS := [.ite (.cmp .NotEq (.call (Str.ofString "there") (.cons (.var 1) (.cons (.var 10) (.cons (.var 8) .nil)))) (.call (Str.ofString "there") (.cons (.var 1) (.cons (.var 10) (.cons (.var 2) .nil))))) [.ret (.bl false)] []]
def d_law_k08 : Df := ⟨1, 20, [
  .set 1 (.call (Str.ofString "_law_book") (.cons (.var 0) (.cons (.int 3) .nil))),
  .setT [11, 12] (.call (Str.ofString "_law_many") (.cons (.var 0) (.cons (.int 3) .nil))),
  .set 2 (.call (Str.ofString "_law_stand") (.cons (.var 0) (.cons (.int 5) (.cons (.var 11) (.cons (.var 12) .nil))))),
  .set 3 (.ix (.lst (.cons (.str (Str.ofString "one")) (.cons (.str (Str.ofString "some")) (.cons (.str (Str.ofString "all")) .nil)))) (.bin .Mod (.call (Str.ofString "_law_cell") (.cons (.var 0) (.cons (.int 0) .nil))) (.int 3))),
  .set 4 (.bin .Mod (.call (Str.ofString "_law_cell") (.cons (.var 0) (.cons (.int 1) .nil))) (.var 11)),
  .set 5 (.ix (.lst (.cons (.int 1) (.cons (.neg 1) .nil))) (.bin .Mod (.bin .FloorDiv (.call (Str.ofString "_law_cell") (.cons (.var 0) (.cons (.int 1) .nil))) (.int 7)) (.int 2))),
  .set 6 c_law_k08_0,
  .set 7 c_law_k08_1,
  .set 8 (.bi1 .tuple c_law_k08_2),
  .newL 9 .nil,
  .for (.many [13, 14]) (.seq (.call (Str.ofString "acts") (.cons (.var 1) (.cons (.var 2) (.cons (.var 3) .nil))))) b_law_k08_0,
  .frz 9,
  .ite (.bop .Or (.cons (.cmp .NotEq (.call (Str.ofString "acts") (.cons (.var 1) (.cons (.var 8) (.cons (.var 3) .nil)))) (.bi1 .sorted (.var 9))) (.cons (.cmp .NotEq (.call (Str.ofString "still") (.cons (.var 1) (.cons (.var 8) .nil))) (.call (Str.ofString "still") (.cons (.var 1) (.cons (.var 2) .nil)))) .nil))) [.ret (.bl false)] [],
  .for (.one 10) (.seq (.tup (.cons (.str (Str.ofString "met")) (.cons (.str (Str.ofString "together")) (.cons (.str (Str.ofString "evenly")) .nil))))) b_law_k08_1,
  .ret (.cmp .Eq (.call (Str.ofString "least_like") (.cons (.var 1) (.cons (.var 8) .nil))) (.call (Str.ofString "least_like") (.cons (.var 1) (.cons (.var 2) .nil))))]⟩
def d_put : Df := ⟨3, 3, [
  .ret (.bin .Add (.bin .Add (.sl (.var 0) .no (.some (.var 1))) (.tup (.cons (.var 2) .nil))) (.sl (.var 0) (.some (.bin .Add (.var 1) (.int 1))) .no))]⟩
def b_late_steps_0 : List DS := [.app 2 (.tup (.cons (.tup (.cons (.var 3) .nil)) (.cons (.tup (.cons (.var 4) (.cons (.call (Str.ofString "put") (.cons (.var 5) (.cons (.var 3) (.cons (.var 6) .nil)))) .nil))) .nil)))]
def b_late_steps_1 : List DS := [.ite (.cmp .Eq (.ix (.var 5) (.var 3)) (.glob (Str.ofString "NO_PLAN"))) [.for (.one 6) (.seq (.call (Str.ofString "wish_at") (.cons (.var 0) (.cons (.var 4) (.cons (.ix (.var 4) (.var 3)) .nil))))) b_late_steps_0] [.app 2 (.tup (.cons (.tup (.cons (.var 3) .nil)) (.cons (.tup (.cons (.call (Str.ofString "put") (.cons (.var 4) (.cons (.var 3) (.cons (.ix (.var 5) (.var 3)) .nil)))) (.cons (.call (Str.ofString "put") (.cons (.var 5) (.cons (.var 3) (.cons (.glob (Str.ofString "NO_PLAN")) .nil)))) .nil))) .nil)))]]
def d_late_steps : Df := ⟨2, 7, [
  .setT [4, 5] (.var 1),
  .newL 2 .nil,
  .for (.one 3) (.rng1 (.bi1 .len (.var 4))) b_late_steps_1,
  .frz 2,
  .ret (.var 2)]⟩
def d_look_late : Df := ⟨2, 2, [
  .expr (.call (Str.ofString "look") (.cons (.var 0) (.cons (.var 1) .nil))),
  .ite (.cmp .Gt (.bi1 .len (.var 1)) (.glob (Str.ofString "MOST_LATE"))) [.raise (Str.ofString "TooBig") (Str.ofString "too many hands")] []]⟩
def b_are_plans_0 : List DS := [.ite (.nt (.call (Str.ofString "is_within") (.cons (.var 4) (.cons (.glob (Str.ofString "NO_PLAN")) (.cons (.bin .Sub (.ix (.var 0) (.int 0)) (.int 1)) .nil))))) [.ret (.bl false)] [], .ite (.bop .And (.cons (.cmp .NotEq (.var 4) (.glob (Str.ofString "NO_PLAN"))) (.cons (.cmp .NotIn (.bin .Mod (.bin .Sub (.var 4) (.var 3)) (.ix (.var 0) (.int 0))) (.tup (.cons (.int 0) (.cons (.int 1) (.cons (.bin .Sub (.ix (.var 0) (.int 0)) (.int 1)) .nil))))) .nil))) [.ret (.bl false)] []]
def d_are_plans : Df := ⟨3, 5, [
  .ite (.bop .Or (.cons (.nt (.isi (.var 2) "tuple")) (.cons (.cmp .NotEq (.bi1 .len (.var 2)) (.bi1 .len (.var 1))) .nil))) [.ret (.bl false)] [],
  .for (.many [3, 4]) (.zp (.var 1) (.var 2)) b_are_plans_0,
  .ret (.bl true)]⟩
def d_late_acts : Df := ⟨3, 3, [
  .expr (.call (Str.ofString "look_late") (.cons (.var 0) (.cons (.var 1) .nil))),
  .ite (.nt (.call (Str.ofString "are_plans") (.cons (.var 0) (.cons (.var 1) (.cons (.var 2) .nil))))) [.raise (Str.ofString "BadStand") (Str.ofString "no plans")] [],
  .ret (.call (Str.ofString "late_steps") (.cons (.var 0) (.cons (.tup (.cons (.var 1) (.cons (.var 2) .nil))) .nil)))]⟩
def b_law_late_acts_0 : List DS := [.app 3 (.tup (.cons (.tup (.cons (.var 4) .nil)) (.cons (.tup (.cons (.var 1) (.cons (.bin .Add (.bin .Add (.sl (.var 2) .no (.some (.var 4))) (.tup (.cons (.var 5) .nil))) (.sl (.var 2) (.some (.bin .Add (.var 4) (.int 1))) .no)) .nil))) .nil)))]
def b_law_late_acts_1 : List DS := [.ite (.cmp .Eq (.ix (.var 2) (.var 4)) (.neg 1)) [.for (.one 5) (.seq (.call (Str.ofString "_law_wish") (.cons (.var 0) (.cons (.var 1) (.cons (.ix (.var 1) (.var 4)) .nil))))) b_law_late_acts_0] [.set 6 (.bin .Add (.bin .Add (.sl (.var 1) .no (.some (.var 4))) (.tup (.cons (.ix (.var 2) (.var 4)) .nil))) (.sl (.var 1) (.some (.bin .Add (.var 4) (.int 1))) .no)), .app 3 (.tup (.cons (.tup (.cons (.var 4) .nil)) (.cons (.tup (.cons (.var 6) (.cons (.bin .Add (.bin .Add (.sl (.var 2) .no (.some (.var 4))) (.tup (.cons (.neg 1) .nil))) (.sl (.var 2) (.some (.bin .Add (.var 4) (.int 1))) .no)) .nil))) .nil)))]]
def d_law_late_acts : Df := ⟨3, 7, [
  .newL 3 .nil,
  .for (.one 4) (.rng1 (.bi1 .len (.var 1))) b_law_late_acts_1,
  .frz 3,
  .ret (.var 3)]⟩
def d_law_told_k15 : Df := ⟨3, 4, [
  .tryE (.ret (.call (Str.ofString "late_acts") (.cons (.var 0) (.cons (.var 1) (.cons (.var 2) .nil))))) [(Str.ofString "BadBook"), (Str.ofString "BadStand"), (Str.ofString "TooBig")] (Str.ofString "HandError") 3 [.ret (.isl [(Str.ofString "BadStand"), (Str.ofString "TooBig"), (Str.ofString "ValueError")])]]⟩
def b_law_k15_0 : List DS := [.set 9 (.call (Str.ofString "_law_mix") (.cons (.bin .Add (.call (Str.ofString "_law_cell") (.cons (.var 0) (.cons (.int 0) .nil))) (.bin .Mult (.int 17) (.var 5))) (.cons (.int 9901) (.cons (.int 4) .nil)))), .app 4 (.ix (.lst (.cons (.neg 1) (.cons (.ix (.var 3) (.var 5)) (.cons (.bin .Mod (.bin .Add (.ix (.var 3) (.var 5)) (.int 1)) (.var 8)) (.cons (.bin .Mod (.bin .Sub (.ix (.var 3) (.var 5)) (.int 1)) (.var 8)) .nil))))) (.var 9))]
def c_law_k15_0 : DE := .lc (.one 11) (.seq (.var 3)) .no (.bin .Mod (.bin .Add (.var 11) (.int 2)) (.var 8))
def d_law_k15 : Df := ⟨1, 12, [
  .set 1 (.call (Str.ofString "_law_book") (.cons (.var 0) (.cons (.int 2) .nil))),
  .setT [8, 2] (.call (Str.ofString "_law_many") (.cons (.var 0) (.cons (.int 2) .nil))),
  .set 2 (.mn2 (.var 2) (.int 3)),
  .set 3 (.call (Str.ofString "_law_stand") (.cons (.var 0) (.cons (.int 4) (.cons (.var 8) (.cons (.var 2) .nil))))),
  .newL 4 .nil,
  .for (.one 5) (.rng1 (.var 2)) b_law_k15_0,
  .ite (.cmp .Eq (.bin .Mod (.call (Str.ofString "_law_cell") (.cons (.var 0) (.cons (.int 1) .nil))) (.int 4)) (.int 3)) [.frz 4, .newL 10 (.cons .non (.cons (.var 4) (.cons (.bin .Add (.bi1 .tuple (.var 4)) (.tup (.cons (.neg 1) .nil))) (.cons (.bin .Mult (.tup (.cons .non .nil)) (.var 2)) (.cons (.bin .Mult (.tup (.cons (.neg 2) .nil)) (.var 2)) (.cons (.bin .Mult (.tup (.cons (.var 8) .nil)) (.var 2)) .nil)))))), .catO 10 (.lst (.cons (.bin .Mult (.tup (.cons (.bl true) .nil)) (.var 2)) (.cons (.bin .Mult (.tup (.cons (.str (Str.ofString "0")) .nil)) (.var 2)) .nil))), .ite (.cmp .Gt (.var 8) (.int 3)) [.app 10 (.bi1 .tuple c_law_k15_0)] [], .ite (.cmp .NotEq (.call (Str.ofString "_law_told") (.cons (.var 1) (.cons (.var 3) (.cons (.ixO 10 (.bin .Mod (.call (Str.ofString "_law_cell") (.cons (.var 0) (.cons (.int 0) .nil))) (.lenO 10))) .nil)))) (.lst (.cons (.bl true) (.cons (.bl false) (.cons (.bl true) .nil))))) [.ret (.bl false)] [], .ret (.cmp .Eq (.call (Str.ofString "_law_told") (.cons (.var 1) (.cons (.tup (.cons (.int 0) (.cons (.int 1) (.cons (.int 2) (.cons (.int 0) .nil))))) (.cons .non .nil)))) (.lst (.cons (.bl false) (.cons (.bl true) (.cons (.bl true) .nil)))))] [],
  .frz 4,
  .set 4 (.bi1 .tuple (.var 4)),
  .set 6 (.call (Str.ofString "_law_late_acts") (.cons (.var 1) (.cons (.var 3) (.cons (.var 4) .nil)))),
  .set 7 (.call (Str.ofString "_law_told") (.cons (.var 1) (.cons (.var 3) (.cons (.var 4) .nil)))),
  .ret (.bop .And (.cons (.isi (.var 7) "list") (.cons (.cmp .Eq (.var 7) (.var 6)) .nil)))]⟩
def c_kinds_0 : DE := .lc (.one 2) (.seq (.call (Str.ofString "all_stands") (.cons (.ix (.var 0) (.int 0)) (.cons (.var 1) .nil)))) .no (.bi1 .min (.call (Str.ofString "images") (.cons (.ix (.var 0) (.int 0)) (.cons (.var 2) .nil))))
def d_kinds : Df := ⟨2, 3, [
  .expr (.call (Str.ofString "checked") (.cons (.var 0) .nil)),
  .ite (.nt (.call (Str.ofString "is_within") (.cons (.var 1) (.cons (.int 1) (.cons (.glob (Str.ofString "MOST_HANDS")) .nil))))) [.raise (Str.ofString "TooBig") (Str.ofString "no such number of hands")] [],
  .ret (.sset c_kinds_0)]⟩
def c_law_least_0 : DE := .lc (.one 4) (.seq (.var 1)) .no (.bin .Mod (.bin .Add (.var 4) (.var 3)) (.var 0))
def c_law_least_1 : DE := .lc (.one 4) (.seq (.var 1)) .no (.bin .Mod (.bin .Add (.bin .Sub (.var 0) (.var 4)) (.var 3)) (.var 0))
def b_law_least_0 : List DS := [.app 2 (.bi1 .sorted c_law_least_0), .app 2 (.bi1 .sorted c_law_least_1)]
def d_law_least : Df := ⟨2, 5, [
  .newL 2 .nil,
  .for (.one 3) (.rng1 (.var 0)) b_law_least_0,
  .frz 2,
  .ret (.bi1 .tuple (.bi1 .min (.var 2)))]⟩
def c_law_k18_0 : DE := .lc (.one 7) (.seq (.call (Str.ofString "_law_stands") (.cons (.var 5) (.cons (.var 6) .nil)))) .no (.call (Str.ofString "_law_least") (.cons (.var 5) (.cons (.var 7) .nil)))
def d_law_k18 : Df := ⟨1, 8, [
  .set 1 (.call (Str.ofString "_law_book") (.cons (.var 0) (.cons (.int 2) .nil))),
  .setT [5, 6] (.call (Str.ofString "_law_many") (.cons (.var 0) (.cons (.int 2) .nil))),
  .set 2 (.call (Str.ofString "_law_stand") (.cons (.var 0) (.cons (.int 4) (.cons (.var 5) (.cons (.var 6) .nil))))),
  .ite (.cmp .NotEq (.call (Str.ofString "least_like") (.cons (.var 1) (.cons (.var 2) .nil))) (.call (Str.ofString "_law_least") (.cons (.var 5) (.cons (.var 2) .nil)))) [.ret (.bl false)] [],
  .set 3 (.sset c_law_k18_0),
  .set 4 (.call (Str.ofString "kinds") (.cons (.var 1) (.cons (.var 6) .nil))),
  .ret (.bop .And (.cons (.isi (.var 4) "list") (.cons (.cmp .Eq (.var 4) (.var 3)) (.cons (.cmp .In (.call (Str.ofString "least_like") (.cons (.var 1) (.cons (.var 2) .nil))) (.var 4)) .nil))))]⟩
def d_way_to : Df := ⟨3, 9, [
  .any,
  .newL 4 (.cons (.var 1) .nil),
  .set 5 (.int 0),
  .any,
  .ret .non]⟩
def d_way_back : Df := ⟨2, 5, [
  .newL 2 .nil,
  .any,
  .any,
  .ret (.var 2)]⟩
def b_finished_0 : List DS := [.newL 5 (.cons (.tup (.cons (.var 4) (.cons (.bl false) .nil))) .nil), .any]
def d_finished : Df := ⟨2, 10, [
  .newL 2 .nil,
  .newD 3,
  .for (.one 4) (.seq (.var 1)) b_finished_0,
  .frz 2,
  .ret (.var 2)]⟩
def b_knots_0 : List DS := [.dput 2 (.var 3) (.lst .nil)]
def b_knots_1 : List DS := [.ite (.cmp .In (.var 8) (.var 0)) [.any] []]
def b_knots_2 : List DS := [.for (.many [7, 8]) (.seq (.ix (.var 0) (.var 3))) b_knots_1]
def b_knots_3 : List DS := [.any]
def d_knots : Df := ⟨1, 10, [
  .set 1 (.call (Str.ofString "finished") (.cons (.var 0) (.cons (.bi1 .list (.var 0)) .nil))),
  .newD 2,
  .for (.one 3) (.seq (.var 0)) b_knots_0,
  .for (.one 3) (.seq (.var 0)) b_knots_2,
  .newL 4 .nil,
  .newD 5,
  .for (.one 6) (.seq (.rev (.var 1))) b_knots_3,
  .frz 4,
  .ret (.rev (.var 4))]⟩
def d_knots_more : Df := ⟨3, 6, [
  .newL 3 .nil,
  .set 4 (.bi1 .list (.var 1)),
  .any,
  .frz 3,
  .ret (.var 3)]⟩
def b_within_0 : List DS := [.dput 2 (.var 3) (.bl true)]
def b_within_1 : List DS := [.any]
def d_within : Df := ⟨2, 6, [
  .newD 2,
  .for (.one 3) (.seq (.var 1)) b_within_0,
  .newD 4,
  .for (.one 3) (.seq (.var 1)) b_within_1,
  .frz 4,
  .ret (.var 4)]⟩
def d_grown : Df := ⟨2, 7, [
  .newD 2,
  .newL 3 (.cons (.var 0) .nil),
  .any,
  .frz 2,
  .ret (.var 2)]⟩
def b_acting_in_0 : List DS := [.dput 2 (.var 6) (.bl true)]
def b_acting_in_1 : List DS := [.for (.one 6) (.seq (.var 4)) b_acting_in_0]
def b_acting_in_2 : List DS := [.for (.many [4, 5]) (.seq (.ix (.var 0) (.var 3))) b_acting_in_1]
def d_acting_in : Df := ⟨2, 7, [
  .newD 2,
  .for (.one 3) (.seq (.var 0)) b_acting_in_2,
  .any]⟩
def d_round_in : Df := ⟨3, 13, [
  .newL 3 .nil,
  .set 4 (.var 1),
  .set 5 (.lstRg (.var 2)),
  .any,
  .frz 3,
  .ret (.bin .Add (.var 3) (.call (Str.ofString "way_to") (.cons (.var 0) (.cons (.var 4) (.cons (.lst (.cons (.var 1) .nil)) .nil)))))]⟩
def c_round_past_0 : DE := .lc (.one 11) (.seq (.ix (.var 4) (.var 6))) (.some (.cmp .NotIn (.var 3) (.ix (.var 11) (.int 1)))) (.var 11)
def b_round_past_0 : List DS := [.ite (.cmp .NotIn (.var 3) (.var 6)) [.dput 5 (.var 6) c_round_past_0] []]
def b_round_past_1 : List DS := [.set 8 (.call (Str.ofString "within") (.cons (.var 5) (.cons (.var 7) .nil))), .ite (.cmp .Eq (.bi1 .len (.call (Str.ofString "acting_in") (.cons (.var 8) (.cons (.bi1 .len (.var 2)) .nil)))) (.bi1 .len (.var 2))) [.set 9 (.call (Str.ofString "way_to") (.cons (.var 4) (.cons (.var 2) (.cons (.var 8) .nil)))), .set 10 (.var 2), .ite (.var 9) [.set 10 (.ix (.ix (.var 9) (.neg 1)) (.int 1))] [], .ret (.tup (.cons (.var 9) (.cons (.call (Str.ofString "round_in") (.cons (.var 8) (.cons (.var 10) (.cons (.bi1 .len (.var 2)) .nil)))) .nil)))] []]
def d_round_past : Df := ⟨4, 12, [
  .expr (.call (Str.ofString "look_acts") (.cons (.var 0) (.cons (.var 2) (.cons (.var 1) .nil)))),
  .ite (.nt (.call (Str.ofString "is_within") (.cons (.var 3) (.cons (.int 0) (.cons (.bin .Sub (.ix (.var 0) (.int 0)) (.int 1)) .nil))))) [.raise (Str.ofString "BadPlace") (Str.ofString "no place")] [],
  .any,
  .newD 5,
  .for (.one 6) (.seq (.var 4)) b_round_past_0,
  .frz 5,
  .for (.one 7) (.seq (.call (Str.ofString "knots") (.cons (.var 5) .nil))) b_round_past_1,
  .ret .non]⟩
def d_law_deed_k23 : Df := ⟨1, 2, [
  .set 1 (.tup (.cons (.int 3) (.cons (.str (Str.ofString "all")) (.cons (.tup .nil) .nil)))),
  .ite (.cmp .Eq (.var 0) (.int 0)) [.ret (.call (Str.ofString "checked") (.cons (.tup .nil) .nil))] [],
  .ite (.cmp .Eq (.var 0) (.int 1)) [.ret (.call (Str.ofString "still") (.cons (.var 1) (.cons (.tup (.cons (.int 3) .nil)) .nil)))] [],
  .ite (.cmp .Eq (.var 0) (.int 2)) [.ret (.call (Str.ofString "view") (.cons (.var 1) (.cons (.tup (.cons (.int 0) .nil)) (.cons (.int 1) .nil))))] [],
  .ite (.cmp .Eq (.var 0) (.int 3)) [.ret (.call (Str.ofString "acts") (.cons (.var 1) (.cons (.tup (.cons (.int 0) .nil)) (.cons (.str (Str.ofString "none")) .nil))))] [],
  .ite (.cmp .Eq (.var 0) (.int 4)) [.ret (.call (Str.ofString "there") (.cons (.var 1) (.cons (.str (Str.ofString "none")) (.cons (.tup (.cons (.int 0) .nil)) .nil))))] [],
  .ite (.cmp .Eq (.var 0) (.int 5)) [.ret (.call (Str.ofString "played") (.cons (.var 1) (.cons (.tup (.cons (.int 0) .nil)) (.cons (.str (Str.ofString "one")) (.cons (.lst (.cons (.neg 1) .nil)) .nil)))))] [],
  .ite (.cmp .Eq (.var 0) (.int 6)) [.ret (.call (Str.ofString "round_past") (.cons (.var 1) (.cons (.str (Str.ofString "one")) (.cons (.tup (.cons (.int 0) .nil)) (.cons (.int 3) .nil)))))] [],
  .ret (.call (Str.ofString "kinds") (.cons (.var 1) (.cons (.int 5) .nil)))]⟩
def d_law_kinds_of : Df := ⟨1, 3, [
  .set 1 (.lst .nil),
  .tryE (.expr (.call (Str.ofString "_law_deed") (.cons (.var 0) .nil))) [(Str.ofString "BadBook"), (Str.ofString "BadGoal"), (Str.ofString "BadHand"), (Str.ofString "BadOrder"), (Str.ofString "BadPicks"), (Str.ofString "BadPlace"), (Str.ofString "BadStand"), (Str.ofString "TooBig")] (Str.ofString "HandError") 2 [.set 1 (.isl [(Str.ofString "BadBook"), (Str.ofString "BadStand"), (Str.ofString "BadHand"), (Str.ofString "BadOrder")]), .set 1 (.add (.var 1) (.isl [(Str.ofString "BadGoal"), (Str.ofString "BadPicks"), (Str.ofString "BadPlace")])), .set 1 (.add (.var 1) (.isl [(Str.ofString "TooBig")]))],
  .ret (.var 1)]⟩
def c_law_k23_0 : DE := .lc (.one 2) (.rng1 (.int 8)) .no (.cmp .Eq (.var 2) (.var 1))
def d_law_k23 : Df := ⟨1, 3, [
  .set 1 (.bin .Mod (.call (Str.ofString "_law_cell") (.cons (.var 0) (.cons (.int 0) .nil))) (.int 8)),
  .ret (.cmp .Eq (.call (Str.ofString "_law_kinds_of") (.cons (.var 1) .nil)) c_law_k23_0)]⟩
def b_level_rows_0 : List DS := [.any]
def d_level_rows : Df := ⟨4, 12, [
  .newL 4 .nil,
  .set 5 (.int 0),
  .for (.one 6) (.seq (.var 1)) b_level_rows_0,
  .frz 4,
  .ret (.bi1 .sorted (.var 4))]⟩
def b_judged_0 : List DS := [.set 6 (.call (Str.ofString "within") (.cons (.var 3) (.cons (.var 5) .nil))), .any]
def d_judged : Df := ⟨3, 9, [
  .set 3 (.call (Str.ofString "grown") (.cons (.var 0) (.cons (.var 2) .nil))),
  .set 4 (.call (Str.ofString "knots") (.cons (.var 3) .nil)),
  .for (.one 5) (.seq (.var 4)) b_judged_0,
  .ret (.tup (.cons (.str (Str.ofString "leads")) (.cons (.call (Str.ofString "level_rows") (.cons (.var 3) (.cons (.var 4) (.cons (.var 1) (.cons (.var 2) .nil))))) .nil)))]⟩
def d_fair_order : Df := ⟨4, 4, [
  .expr (.call (Str.ofString "look_acts") (.cons (.var 0) (.cons (.var 3) (.cons (.var 1) .nil)))),
  .expr (.call (Str.ofString "look_goal") (.cons (.var 2) .nil)),
  .any]⟩
def c_run_to_0 : DE := .lc (.many [3, 4]) (.seq (.call (Str.ofString "way_to") (.cons (.var 0) (.cons (.var 1) (.cons (.var 2) .nil))))) .no (.var 4)
def d_run_to : Df := ⟨3, 5, [
  .ret (.bin .Add (.lst (.cons (.var 1) .nil)) c_run_to_0)]⟩
def c_ring_from_0 : DE := .lc (.many [6, 7]) (.seq (.var 5)) .no (.var 7)
def b_ring_from_0 : List DS := [.set 5 (.call (Str.ofString "way_to") (.cons (.var 0) (.cons (.var 4) (.cons (.lst (.cons (.var 1) .nil)) .nil)))), .ite (.bop .And (.cons (.cmp .IsNot (.var 5) .non) (.cons (.bop .Or (.cons (.cmp .Is (.var 2) .non) (.cons (.cmp .Lt (.bin .Add (.bi1 .len (.var 5)) (.int 1)) (.bi1 .len (.var 2))) .nil))) .nil))) [.set 2 (.bin .Add (.lst (.cons (.var 1) (.cons (.var 4) .nil))) c_ring_from_0)] []]
def d_ring_from : Df := ⟨2, 8, [
  .set 2 .non,
  .for (.many [3, 4]) (.seq (.ix (.var 0) (.var 1))) b_ring_from_0,
  .ret (.sl (.var 2) .no (.some (.neg 1)))]⟩
def b_numbers_0 : List DS := [.any]
def b_numbers_1 : List DS := [.set 4 (.ix (.var 3) (.int 0)), .dput 2 (.var 4) (.int 0), .for (.many [5, 6]) (.seq (.ix (.var 0) (.var 4))) b_numbers_0]
def d_numbers : Df := ⟨2, 7, [
  .newD 2,
  .for (.one 3) (.seq (.var 1)) b_numbers_1,
  .frz 2,
  .ret (.var 2)]⟩
def c_any_order_0 : DE := .lc (.one 10) (.seq (.var 4)) (.some (.bop .And (.cons (.nt (.call (Str.ofString "is_in") (.cons (.var 0) (.cons (.var 2) (.cons (.var 10) .nil))))) (.cons (.call (Str.ofString "is_still") (.cons (.var 0) (.cons (.var 10) .nil))) .nil)))) (.var 10)
def b_any_order_0 : List DS := [.set 9 (.call (Str.ofString "within") (.cons (.var 4) (.cons (.var 7) .nil))), .ite (.ix (.var 9) (.ix (.var 7) (.int 0))) [.set 11 (.call (Str.ofString "run_to") (.cons (.var 4) (.cons (.var 3) (.cons (.var 9) .nil)))), .ret (.tup (.cons (.str (Str.ofString "never")) (.cons (.sl (.var 11) .no (.some (.neg 1))) (.cons (.call (Str.ofString "ring_from") (.cons (.var 9) (.cons (.ix (.var 11) (.neg 1)) .nil))) .nil))))] []]
def c_any_order_1 : DE := .lc (.one 10) (.seq (.bi1 .sorted (.var 8))) .no (.tup (.cons (.var 10) (.cons (.ix (.var 8) (.var 10)) .nil)))
def d_any_order : Df := ⟨4, 12, [
  .expr (.call (Str.ofString "look_acts") (.cons (.var 0) (.cons (.var 3) (.cons (.var 1) .nil)))),
  .expr (.call (Str.ofString "look_goal") (.cons (.var 2) .nil)),
  .any,
  .set 5 c_any_order_0,
  .ite (.var 5) [.ret (.tup (.cons (.str (Str.ofString "stuck")) (.cons (.call (Str.ofString "run_to") (.cons (.var 4) (.cons (.var 3) (.cons (.var 5) .nil)))) .nil)))] [],
  .set 6 (.call (Str.ofString "knots") (.cons (.var 4) .nil)),
  .for (.one 7) (.seq (.var 6)) b_any_order_0,
  .set 8 (.call (Str.ofString "numbers") (.cons (.var 4) (.cons (.var 6) .nil))),
  .ret (.tup (.cons (.str (Str.ofString "falls")) (.cons c_any_order_1 .nil)))]⟩
def c_most_changes_0 : DE := .lc (.many [5, 6]) (.seq (.ix (.var 4) (.int 1))) (.some (.cmp .Eq (.var 5) (.var 3))) (.var 6)
def d_most_changes : Df := ⟨4, 7, [
  .set 4 (.call (Str.ofString "any_order") (.cons (.var 0) (.cons (.var 1) (.cons (.var 2) (.cons (.var 3) .nil))))),
  .ite (.cmp .NotEq (.ix (.var 4) (.int 0)) (.str (Str.ofString "falls"))) [.ret .non] [],
  .ret (.ix c_most_changes_0 (.int 0))]⟩
def d_first_state : Df := ⟨1, 1, [
  .ret (.tup (.cons (.var 0) (.cons (.bin .Mult (.tup (.cons (.glob (Str.ofString "NO_PLAN")) .nil)) (.bi1 .len (.var 0))) .nil)))]⟩
def d_late_order : Df := ⟨3, 3, [
  .expr (.call (Str.ofString "look_late") (.cons (.var 0) (.cons (.var 2) .nil))),
  .expr (.call (Str.ofString "look_goal") (.cons (.var 1) .nil)),
  .any]⟩
def b_is_run_0 : List DS := [.ite (.bop .Or (.cons (.nt (.call (Str.ofString "is_stand") (.cons (.ix (.var 0) (.int 0)) (.cons (.var 5) .nil)))) (.cons (.call (Str.ofString "is_in") (.cons (.var 0) (.cons (.var 2) (.cons (.var 5) .nil)))) .nil))) [.ret (.bl false)] [], .ite (.bop .And (.cons (.cmp .Gt (.var 4) (.int 0)) (.cons (.cmp .NotIn (.var 5) (.call (Str.ofString "changes_from") (.cons (.var 0) (.cons (.ix (.var 3) (.bin .Sub (.var 4) (.int 1))) (.cons (.var 1) .nil))))) .nil))) [.ret (.bl false)] []]
def d_is_run : Df := ⟨4, 6, [
  .for (.many [4, 5]) (.enm (.var 3)) b_is_run_0,
  .ret (.bl true)]⟩
def b_shows_falls_0 : List DS := [.ite (.bop .Or (.cons (.nt (.isi (.var 6) "tuple")) (.cons (.cmp .NotEq (.bi1 .len (.var 6)) (.int 2)) (.cons (.nt (.call (Str.ofString "is_stand") (.cons (.ix (.var 0) (.int 0)) (.cons (.ix (.var 6) (.int 0)) .nil)))) .nil)))) [.ret (.bl false)] [], .any, .dput 5 (.ix (.var 6) (.int 0)) (.ix (.var 6) (.int 1))]
def b_shows_falls_1 : List DS := [.ite (.bop .Or (.cons (.cmp .NotIn (.var 8) (.var 5)) (.cons (.cmp .GtE (.ix (.var 5) (.var 8)) (.ix (.var 5) (.var 7))) .nil))) [.ret (.bl false)] []]
def b_shows_falls_2 : List DS := [.ite (.nt (.call (Str.ofString "is_in") (.cons (.var 0) (.cons (.var 2) (.cons (.var 7) .nil))))) [.ite (.call (Str.ofString "is_still") (.cons (.var 0) (.cons (.var 7) .nil))) [.ret (.bl false)] [], .for (.one 8) (.seq (.call (Str.ofString "changes_from") (.cons (.var 0) (.cons (.var 7) (.cons (.var 1) .nil))))) b_shows_falls_1] []]
def d_shows_falls : Df := ⟨5, 9, [
  .newD 5,
  .ite (.nt (.isi (.var 4) "list")) [.ret (.bl false)] [],
  .for (.one 6) (.seq (.var 4)) b_shows_falls_0,
  .any,
  .frz 5,
  .for (.one 7) (.seq (.var 5)) b_shows_falls_2,
  .ret (.bl true)]⟩
def d_shows : Df := ⟨5, 6, [
  .expr (.call (Str.ofString "look_acts") (.cons (.var 0) (.cons (.var 3) (.cons (.var 1) .nil)))),
  .expr (.call (Str.ofString "look_goal") (.cons (.var 2) .nil)),
  .ite (.bop .Or (.cons (.nt (.isi (.var 4) "tuple")) (.cons (.nt (.var 4)) (.cons (.nt (.isi (.ix (.var 4) (.int 0)) "str")) .nil)))) [.ret (.bl false)] [],
  .ite (.bop .And (.cons (.cmp .Eq (.ix (.var 4) (.int 0)) (.str (Str.ofString "falls"))) (.cons (.cmp .Eq (.bi1 .len (.var 4)) (.int 2)) .nil))) [.ret (.call (Str.ofString "shows_falls") (.cons (.var 0) (.cons (.var 1) (.cons (.var 2) (.cons (.var 3) (.cons (.ix (.var 4) (.int 1)) .nil))))))] [],
  .ite (.bop .And (.cons (.cmp .Eq (.ix (.var 4) (.int 0)) (.str (Str.ofString "stuck"))) (.cons (.cmp .Eq (.bi1 .len (.var 4)) (.int 2)) (.cons (.isi (.ix (.var 4) (.int 1)) "list") (.cons (.ix (.var 4) (.int 1)) .nil))))) [.set 5 (.ix (.var 4) (.int 1)), .ret (.bop .And (.cons (.cmp .Eq (.ix (.var 5) (.int 0)) (.var 3)) (.cons (.call (Str.ofString "is_run") (.cons (.var 0) (.cons (.var 1) (.cons (.var 2) (.cons (.var 5) .nil))))) (.cons (.call (Str.ofString "is_still") (.cons (.var 0) (.cons (.ix (.var 5) (.neg 1)) .nil))) .nil))))] [],
  .ite (.bop .And (.cons (.cmp .Eq (.ix (.var 4) (.int 0)) (.str (Str.ofString "never"))) (.cons (.cmp .Eq (.bi1 .len (.var 4)) (.int 3)) (.cons (.isi (.ix (.var 4) (.int 1)) "list") (.cons (.isi (.ix (.var 4) (.int 2)) "list") .nil))))) [.set 5 (.bin .Add (.bin .Add (.ix (.var 4) (.int 1)) (.ix (.var 4) (.int 2))) (.sl (.ix (.var 4) (.int 2)) .no (.some (.int 1)))), .ret (.bop .And (.cons (.cmp .NotEq (.ix (.var 4) (.int 2)) (.lst .nil)) (.cons (.cmp .Eq (.ix (.var 5) (.int 0)) (.var 3)) (.cons (.call (Str.ofString "is_run") (.cons (.var 0) (.cons (.var 1) (.cons (.var 2) (.cons (.var 5) .nil))))) .nil))))] [],
  .ret (.bl false)]⟩
def c_strength_0 : DE := .lc (.one 6) (.seq (.var 4)) (.some (.cmp .Eq (.ix (.call (Str.ofString "any_order") (.cons (.var 0) (.cons (.var 2) (.cons (.var 3) (.cons (.var 6) .nil))))) (.int 0)) (.str (Str.ofString "falls")))) (.var 6)
def d_strength : Df := ⟨4, 7, [
  .set 4 (.call (Str.ofString "kinds") (.cons (.var 0) (.cons (.var 1) .nil))),
  .expr (.call (Str.ofString "look_order") (.cons (.var 2) .nil)),
  .expr (.call (Str.ofString "look_goal") (.cons (.var 3) .nil)),
  .set 5 c_strength_0,
  .ret (.tup (.cons (.bi1 .len (.var 5)) (.cons (.bi1 .len (.var 4)) .nil)))]⟩
def d_law_spoilt : Df := ⟨2, 8, [
  .setT [5, 6, 7] (.var 0),
  .set 2 (.bin .Add (.tup (.cons (.int 1) .nil)) (.bin .Mult (.tup (.cons (.int 0) .nil)) (.bin .Sub (.var 5) (.int 1)))),
  .set 3 (.tup (.cons (.tup (.cons (.var 2) (.cons (.str (Str.ofString "on")) .nil))) .nil)),
  .set 4 (.lst (.cons (.bi1 .list (.var 0)) (.cons .non (.cons (.sl (.var 0) .no (.some (.int 2))) (.cons (.bin .Add (.var 0) (.tup (.cons (.int 0) .nil))) (.cons (.tup (.cons (.int 2) (.cons (.var 6) (.cons (.tup .nil) .nil)))) (.cons (.tup (.cons (.int 8) (.cons (.var 6) (.cons (.tup .nil) .nil)))) .nil))))))),
  .set 4 (.bin .Add (.var 4) (.lst (.cons (.tup (.cons (.bl true) (.cons (.var 6) (.cons (.tup .nil) .nil)))) (.cons (.tup (.cons (.var 5) (.cons (.str (Str.ofString "none")) (.cons (.tup .nil) .nil)))) .nil)))),
  .set 4 (.bin .Add (.var 4) (.lst (.cons (.tup (.cons (.var 5) (.cons .non (.cons (.tup .nil) .nil)))) (.cons (.tup (.cons (.var 5) (.cons (.var 6) (.cons (.bi1 .list (.var 3)) .nil)))) (.cons (.tup (.cons (.var 5) (.cons (.var 6) (.cons (.tup (.cons (.var 2) .nil)) .nil)))) .nil))))),
  .set 4 (.bin .Add (.var 4) (.lst (.cons (.tup (.cons (.var 5) (.cons (.var 6) (.cons (.tup (.cons (.tup (.cons (.var 2) (.cons (.str (Str.ofString "stay")) .nil))) .nil)) .nil)))) .nil))),
  .set 4 (.bin .Add (.var 4) (.lst (.cons (.tup (.cons (.var 5) (.cons (.var 6) (.cons (.tup (.cons (.tup (.cons (.var 2) (.cons .non .nil))) .nil)) .nil)))) (.cons (.tup (.cons (.var 5) (.cons (.var 6) (.cons (.tup (.cons (.tup (.cons (.bin .Add (.lst (.cons (.int 1) .nil)) (.bin .Mult (.lst (.cons (.int 0) .nil)) (.bin .Sub (.var 5) (.int 1)))) (.cons (.str (Str.ofString "on")) .nil))) .nil)) .nil)))) .nil)))),
  .set 4 (.bin .Add (.var 4) (.lst (.cons (.tup (.cons (.var 5) (.cons (.var 6) (.cons (.bin .Mult (.var 3) (.int 2)) .nil)))) .nil))),
  .set 4 (.bin .Add (.var 4) (.lst (.cons (.tup (.cons (.var 5) (.cons (.var 6) (.cons (.tup (.cons (.tup (.cons (.bin .Add (.tup (.cons (.int 0) .nil)) (.sl (.var 2) (.some (.int 1)) .no)) (.cons (.str (Str.ofString "on")) .nil))) .nil)) .nil)))) (.cons (.tup (.cons (.var 5) (.cons (.var 6) (.cons (.tup (.cons (.tup (.cons (.bin .Add (.var 2) (.tup (.cons (.int 0) .nil))) (.cons (.str (Str.ofString "on")) .nil))) .nil)) .nil)))) .nil)))),
  .set 4 (.bin .Add (.var 4) (.lst (.cons (.tup (.cons (.var 5) (.cons (.var 6) (.cons (.tup (.cons (.tup (.cons (.var 2) (.cons (.str (Str.ofString "on")) (.cons (.int 0) .nil)))) .nil)) .nil)))) .nil))),
  .set 4 (.bin .Add (.var 4) (.lst (.cons (.tup (.cons (.var 5) (.cons (.var 6) (.cons (.tup (.cons (.tup (.cons (.bin .Add (.tup (.cons (.int 1) (.cons (.int 1) .nil))) (.bin .Mult (.tup (.cons (.int 0) .nil)) (.bin .Sub (.var 5) (.int 2)))) (.cons (.str (Str.ofString "on")) .nil))) .nil)) .nil)))) .nil))),
  .set 4 (.bin .Add (.var 4) (.lst (.cons (.tup (.cons (.var 5) (.cons (.var 6) (.cons (.tup (.cons (.tup (.cons (.bin .Add (.tup (.cons (.int 5) .nil)) (.bin .Mult (.tup (.cons (.int 0) .nil)) (.bin .Sub (.var 5) (.int 1)))) (.cons (.str (Str.ofString "on")) .nil))) .nil)) .nil)))) .nil))),
  .ret (.ix (.var 4) (.bin .Mod (.var 1) (.int 20)))]⟩
def d_law_deed_k01 : Df := ⟨2, 2, [
  .ite (.cmp .Eq (.var 0) (.int 0)) [.ret (.call (Str.ofString "checked") (.cons (.var 1) .nil))] [],
  .ite (.cmp .Eq (.var 0) (.int 1)) [.ret (.call (Str.ofString "view") (.cons (.var 1) (.cons .non (.cons .non .nil))))] [],
  .ite (.cmp .Eq (.var 0) (.int 2)) [.ret (.call (Str.ofString "wishes") (.cons (.var 1) (.cons .non (.cons .non .nil))))] [],
  .ite (.cmp .Eq (.var 0) (.int 3)) [.ret (.call (Str.ofString "still") (.cons (.var 1) (.cons .non .nil)))] [],
  .ite (.cmp .Eq (.var 0) (.int 4)) [.ret (.call (Str.ofString "acts") (.cons (.var 1) (.cons .non (.cons .non .nil))))] [],
  .ite (.cmp .Eq (.var 0) (.int 5)) [.ret (.call (Str.ofString "changes") (.cons (.var 1) (.cons .non (.cons .non .nil))))] [],
  .ite (.cmp .Eq (.var 0) (.int 6)) [.ret (.call (Str.ofString "played") (.cons (.var 1) (.cons .non (.cons .non (.cons .non .nil)))))] [],
  .ite (.cmp .Eq (.var 0) (.int 7)) [.ret (.call (Str.ofString "there") (.cons (.var 1) (.cons .non (.cons .non .nil))))] [],
  .ret (.call (Str.ofString "any_order") (.cons (.var 1) (.cons .non (.cons .non (.cons .non .nil)))))]⟩
def d_law_more_k01 : Df := ⟨2, 2, [
  .ite (.cmp .Eq (.var 0) (.int 0)) [.ret (.call (Str.ofString "most_changes") (.cons (.var 1) (.cons .non (.cons .non (.cons .non .nil)))))] [],
  .ite (.cmp .Eq (.var 0) (.int 1)) [.ret (.call (Str.ofString "fair_order") (.cons (.var 1) (.cons .non (.cons .non (.cons .non .nil)))))] [],
  .ite (.cmp .Eq (.var 0) (.int 2)) [.ret (.call (Str.ofString "late_acts") (.cons (.var 1) (.cons .non (.cons .non .nil))))] [],
  .ite (.cmp .Eq (.var 0) (.int 3)) [.ret (.call (Str.ofString "late_order") (.cons (.var 1) (.cons .non (.cons .non .nil))))] [],
  .ite (.cmp .Eq (.var 0) (.int 4)) [.ret (.call (Str.ofString "round_past") (.cons (.var 1) (.cons .non (.cons .non (.cons .non .nil)))))] [],
  .ite (.cmp .Eq (.var 0) (.int 5)) [.ret (.call (Str.ofString "least_like") (.cons (.var 1) (.cons .non .nil)))] [],
  .ite (.cmp .Eq (.var 0) (.int 6)) [.ret (.call (Str.ofString "kinds") (.cons (.var 1) (.cons .non .nil)))] [],
  .ite (.cmp .Eq (.var 0) (.int 7)) [.ret (.call (Str.ofString "strength") (.cons (.var 1) (.cons .non (.cons .non (.cons .non .nil)))))] [],
  .ret (.call (Str.ofString "shows") (.cons (.var 1) (.cons .non (.cons .non (.cons .non (.cons .non .nil))))))]⟩
def d_law_told_k01 : Df := ⟨2, 3, [
  .tryE (.ite (.cmp .Lt (.var 0) (.int 9)) (.expr (.call (Str.ofString "_law_deed") (.cons (.var 0) (.cons (.var 1) .nil)))) (.expr (.call (Str.ofString "_law_more") (.cons (.bin .Sub (.var 0) (.int 9)) (.cons (.var 1) .nil))))) [(Str.ofString "BadBook"), (Str.ofString "BadGoal"), (Str.ofString "BadHand"), (Str.ofString "BadOrder"), (Str.ofString "BadPicks"), (Str.ofString "BadPlace"), (Str.ofString "BadStand"), (Str.ofString "TooBig")] (Str.ofString "HandError") 2 [.ret (.isl [(Str.ofString "BadBook"), (Str.ofString "ValueError")])],
  .ret (.lst .nil)]⟩
def c_law_k01_0 : DE := .lc (.one 3) (.rng1 (.int 18)) (.some (.cmp .NotEq (.call (Str.ofString "_law_told") (.cons (.var 3) (.cons (.var 2) .nil))) (.lst (.cons (.bl true) (.cons (.bl true) .nil))))) (.var 3)
def d_law_k01 : Df := ⟨1, 4, [
  .set 1 (.call (Str.ofString "_law_book") (.cons (.var 0) (.cons (.int 2) .nil))),
  .ite (.cmp .Eq (.bin .Mod (.call (Str.ofString "_law_cell") (.cons (.var 0) (.cons (.int 0) .nil))) (.int 3)) (.int 0)) [.ret (.cmp .Eq (.call (Str.ofString "checked") (.cons (.var 1) .nil)) (.var 1))] [],
  .set 2 (.call (Str.ofString "_law_spoilt") (.cons (.var 1) (.cons (.call (Str.ofString "_law_cell") (.cons (.var 0) (.cons (.int 1) .nil))) .nil))),
  .ret (.cmp .Eq c_law_k01_0 (.lst .nil))]⟩
def b_shows_leads_0 : List DS := [.any, .ite (.bop .Or (.cons (.cmp .NotEq (.bi1 .len (.ix (.var 6) (.int 0))) (.bi1 .len (.var 3))) (.cons (.nt (.call (Str.ofString "is_within") (.cons (.ix (.var 6) (.int 1)) (.cons (.int 1) (.cons (.int 99999) .nil))))) (.cons (.nt (.call (Str.ofString "is_within") (.cons (.ix (.var 6) (.int 2)) (.cons (.int 0) (.cons (.bin .Sub (.bi1 .len (.var 3)) (.int 1)) .nil))))) .nil)))) [.ret (.bl false)] [], .dput 5 (.ix (.var 6) (.int 0)) (.sl (.var 6) (.some (.int 1)) .no)]
def b_shows_leads_1 : List DS := [.ite (.bop .And (.cons (.nt (.call (Str.ofString "is_in") (.cons (.var 0) (.cons (.var 2) (.cons (.var 7) .nil))))) (.cons (.nt (.call (Str.ofString "leads_down") (.cons (.var 0) (.cons (.var 1) (.cons (.var 2) (.cons (.var 7) (.cons (.var 5) .nil))))))) .nil))) [.ret (.bl false)] []]
def d_shows_leads : Df := ⟨5, 8, [
  .newD 5,
  .ite (.nt (.isi (.var 4) "list")) [.ret (.bl false)] [],
  .for (.one 6) (.seq (.var 4)) b_shows_leads_0,
  .any,
  .frz 5,
  .for (.one 7) (.seq (.var 5)) b_shows_leads_1,
  .ret (.bl true)]⟩
def b_leads_down_0 : List DS := [.ite (.nt (.call (Str.ofString "is_in") (.cons (.var 0) (.cons (.var 2) (.cons (.var 8) .nil))))) [.ite (.bop .Or (.cons (.cmp .NotIn (.var 8) (.var 4)) (.cons (.cmp .Gt (.ix (.ix (.var 4) (.var 8)) (.int 0)) (.var 5)) .nil))) [.ret (.bl false)] [], .ite (.bop .And (.cons (.cmp .Eq (.ix (.ix (.var 4) (.var 8)) (.int 0)) (.var 5)) (.cons (.bop .Or (.cons (.cmp .In (.var 6) (.var 7)) (.cons (.cmp .NotEq (.ix (.ix (.var 4) (.var 8)) (.int 1)) (.var 6)) .nil))) .nil))) [.ret (.bl false)] []] []]
def d_leads_down : Df := ⟨5, 9, [
  .setT [5, 6] (.ix (.var 4) (.var 3)),
  .for (.many [7, 8]) (.seq (.call (Str.ofString "acts_from") (.cons (.var 0) (.cons (.var 3) (.cons (.var 1) .nil))))) b_leads_down_0,
  .ret (.bl true)]⟩
def d_shows_fair : Df := ⟨5, 5, [
  .expr (.call (Str.ofString "look_acts") (.cons (.var 0) (.cons (.var 3) (.cons (.var 1) .nil)))),
  .expr (.call (Str.ofString "look_goal") (.cons (.var 2) .nil)),
  .ite (.bop .Or (.cons (.nt (.isi (.var 4) "tuple")) (.cons (.nt (.var 4)) (.cons (.nt (.isi (.ix (.var 4) (.int 0)) "str")) .nil)))) [.ret (.bl false)] [],
  .ite (.bop .And (.cons (.cmp .Eq (.ix (.var 4) (.int 0)) (.str (Str.ofString "leads"))) (.cons (.cmp .Eq (.bi1 .len (.var 4)) (.int 2)) .nil))) [.ret (.call (Str.ofString "shows_leads") (.cons (.var 0) (.cons (.var 1) (.cons (.var 2) (.cons (.var 3) (.cons (.ix (.var 4) (.int 1)) .nil))))))] [],
  .ite (.bop .Or (.cons (.cmp .NotEq (.ix (.var 4) (.int 0)) (.str (Str.ofString "round"))) (.cons (.cmp .NotEq (.bi1 .len (.var 4)) (.int 3)) (.cons (.nt (.isi (.ix (.var 4) (.int 1)) "list")) (.cons (.nt (.isi (.ix (.var 4) (.int 2)) "list")) .nil))))) [.ret (.bl false)] [],
  .ret (.call (Str.ofString "is_round") (.cons (.var 0) (.cons (.var 1) (.cons (.var 2) (.cons (.var 3) (.cons (.ix (.var 4) (.int 1)) (.cons (.ix (.var 4) (.int 2)) .nil)))))))]⟩
def b_is_round_0 : List DS := [.dput 7 (.var 11) (.bl true)]
def b_is_round_1 : List DS := [.ite (.bop .Or (.cons (.call (Str.ofString "is_in") (.cons (.var 0) (.cons (.var 2) (.cons (.var 6) .nil)))) (.cons (.cmp .NotIn (.var 10) (.call (Str.ofString "acts_from") (.cons (.var 0) (.cons (.var 6) (.cons (.var 1) .nil))))) .nil))) [.ret (.bl false)] [], .set 6 (.ix (.var 10) (.int 1)), .ite (.cmp .GtE (.var 9) (.bi1 .len (.var 4))) [.for (.one 11) (.seq (.ix (.var 10) (.int 0))) b_is_round_0] []]
def d_is_round : Df := ⟨6, 12, [
  .set 6 (.var 3),
  .newD 7,
  .for (.many [9, 10]) (.enm (.bin .Add (.var 4) (.var 5))) b_is_round_1,
  .set 8 (.ite (.var 4) (.ix (.ix (.var 4) (.neg 1)) (.int 1)) (.var 3)),
  .ret (.bop .And (.cons (.cmp .NotEq (.var 5) (.lst .nil)) (.cons (.cmp .Eq (.var 6) (.var 8)) (.cons (.cmp .Eq (.lenO 7) (.bi1 .len (.var 3))) .nil))))]⟩
def c_neglected_0 : DE := .lc (.one 3) (.rng1 (.ix (.var 0) (.int 0))) (.some (.cmp .IsNot (.call (Str.ofString "round_past") (.cons (.var 0) (.cons (.var 1) (.cons (.var 2) (.cons (.var 3) .nil))))) .non)) (.var 3)
def d_neglected : Df := ⟨3, 4, [
  .expr (.call (Str.ofString "look_acts") (.cons (.var 0) (.cons (.var 2) (.cons (.var 1) .nil)))),
  .ret c_neglected_0]⟩
def b_all_books_0 : List DS := [.ext 5 (.lst (.cons (.var 6) (.cons (.bin .Add (.var 6) (.tup (.cons (.tup (.cons (.var 4) (.cons (.str (Str.ofString "on")) .nil))) .nil))) (.cons (.bin .Add (.var 6) (.tup (.cons (.tup (.cons (.var 4) (.cons (.str (Str.ofString "back")) .nil))) .nil))) .nil))))]
def b_all_books_1 : List DS := [.newL 5 .nil, .for (.one 6) (.seq (.var 3)) b_all_books_0, .frz 5, .set 3 (.var 5)]
def c_all_books_0 : DE := .lc (.one 6) (.seq (.var 3)) .no (.tup (.cons (.var 0) (.cons (.var 1) (.cons (.var 6) .nil))))
def d_all_books : Df := ⟨3, 7, [
  .set 3 (.lst (.cons (.tup .nil) .nil)),
  .for (.one 4) (.seq (.var 2)) b_all_books_1,
  .ret c_all_books_0]⟩
def b_does_0 : List DS := [.ite (.cmp .NotEq (.ix (.call (Str.ofString "any_order") (.cons (.var 0) (.cons (.var 2) (.cons (.var 3) (.cons (.var 4) .nil))))) (.int 0)) (.str (Str.ofString "falls"))) [.ret (.bl false)] []]
def d_does : Df := ⟨4, 5, [
  .for (.one 4) (.seq (.call (Str.ofString "kinds") (.cons (.var 0) (.cons (.var 1) .nil)))) b_does_0,
  .ret (.bl true)]⟩
def b_found_book_0 : List DS := [.ite (.call (Str.ofString "does") (.cons (.var 6) (.cons (.var 2) (.cons (.var 3) (.cons (.var 4) .nil))))) [.ret (.var 6)] []]
def d_found_book : Df := ⟨5, 7, [
  .set 5 (.call (Str.ofString "views") (.cons (.var 0) (.cons (.var 1) (.cons (.var 2) .nil)))),
  .expr (.call (Str.ofString "look_order") (.cons (.var 3) .nil)),
  .expr (.call (Str.ofString "look_goal") (.cons (.var 4) .nil)),
  .ite (.cmp .Gt (.bi1 .len (.var 5)) (.glob (Str.ofString "MOST_VIEWS"))) [.raise (Str.ofString "TooBig") (Str.ofString "too many views")] [],
  .for (.one 6) (.seq (.call (Str.ofString "all_books") (.cons (.var 0) (.cons (.var 1) (.cons (.var 5) .nil))))) b_found_book_0,
  .ret .non]⟩
def d_law_by_stand : Df := ⟨3, 3, [
  .ite (.cmp .Eq (.var 0) (.int 0)) [.ret (.call (Str.ofString "view") (.cons (.var 1) (.cons (.var 2) (.cons .non .nil))))] [],
  .ite (.cmp .Eq (.var 0) (.int 1)) [.ret (.call (Str.ofString "wishes") (.cons (.var 1) (.cons (.var 2) (.cons .non .nil))))] [],
  .ite (.cmp .Eq (.var 0) (.int 2)) [.ret (.call (Str.ofString "still") (.cons (.var 1) (.cons (.var 2) .nil)))] [],
  .ite (.cmp .Eq (.var 0) (.int 3)) [.ret (.call (Str.ofString "acts") (.cons (.var 1) (.cons (.var 2) (.cons .non .nil))))] [],
  .ite (.cmp .Eq (.var 0) (.int 4)) [.ret (.call (Str.ofString "changes") (.cons (.var 1) (.cons (.var 2) (.cons .non .nil))))] [],
  .ite (.cmp .Eq (.var 0) (.int 5)) [.ret (.call (Str.ofString "played") (.cons (.var 1) (.cons (.var 2) (.cons .non (.cons .non .nil)))))] [],
  .ite (.cmp .Eq (.var 0) (.int 6)) [.ret (.call (Str.ofString "there") (.cons (.var 1) (.cons .non (.cons (.var 2) .nil))))] [],
  .ret (.call (Str.ofString "any_order") (.cons (.var 1) (.cons .non (.cons .non (.cons (.var 2) .nil)))))]⟩
def d_law_more_k02 : Df := ⟨3, 3, [
  .ite (.cmp .Eq (.var 0) (.int 0)) [.ret (.call (Str.ofString "fair_order") (.cons (.var 1) (.cons .non (.cons .non (.cons (.var 2) .nil)))))] [],
  .ite (.cmp .Eq (.var 0) (.int 1)) [.ret (.call (Str.ofString "late_acts") (.cons (.var 1) (.cons (.var 2) (.cons .non .nil))))] [],
  .ite (.cmp .Eq (.var 0) (.int 2)) [.ret (.call (Str.ofString "late_order") (.cons (.var 1) (.cons .non (.cons (.var 2) .nil))))] [],
  .ite (.cmp .Eq (.var 0) (.int 3)) [.ret (.call (Str.ofString "round_past") (.cons (.var 1) (.cons .non (.cons (.var 2) (.cons .non .nil)))))] [],
  .ite (.cmp .Eq (.var 0) (.int 4)) [.ret (.call (Str.ofString "neglected") (.cons (.var 1) (.cons .non (.cons (.var 2) .nil))))] [],
  .ite (.cmp .Eq (.var 0) (.int 5)) [.ret (.call (Str.ofString "least_like") (.cons (.var 1) (.cons (.var 2) .nil)))] [],
  .ret (.call (Str.ofString "shows_fair") (.cons (.var 1) (.cons .non (.cons .non (.cons (.var 2) (.cons .non .nil))))))]⟩
def d_law_by_order : Df := ⟨4, 4, [
  .ite (.cmp .Eq (.var 0) (.int 0)) [.ret (.call (Str.ofString "acts") (.cons (.var 1) (.cons (.var 2) (.cons (.var 3) .nil))))] [],
  .ite (.cmp .Eq (.var 0) (.int 1)) [.ret (.call (Str.ofString "played") (.cons (.var 1) (.cons (.var 2) (.cons (.var 3) (.cons .non .nil)))))] [],
  .ite (.cmp .Eq (.var 0) (.int 2)) [.ret (.call (Str.ofString "any_order") (.cons (.var 1) (.cons (.var 3) (.cons .non (.cons (.var 2) .nil)))))] [],
  .ite (.cmp .Eq (.var 0) (.int 3)) [.ret (.call (Str.ofString "fair_order") (.cons (.var 1) (.cons (.var 3) (.cons .non (.cons (.var 2) .nil)))))] [],
  .ite (.cmp .Eq (.var 0) (.int 4)) [.ret (.call (Str.ofString "round_past") (.cons (.var 1) (.cons (.var 3) (.cons (.var 2) (.cons .non .nil)))))] [],
  .ite (.cmp .Eq (.var 0) (.int 5)) [.ret (.call (Str.ofString "strength") (.cons (.var 1) (.cons (.int 2) (.cons (.var 3) (.cons .non .nil)))))] [],
  .ite (.cmp .Eq (.var 0) (.int 6)) [.ret (.call (Str.ofString "found_book") (.cons (.int 3) (.cons (.str (Str.ofString "all")) (.cons (.int 2) (.cons (.var 3) (.cons .non .nil))))))] [],
  .ret (.call (Str.ofString "shows") (.cons (.var 1) (.cons (.var 3) (.cons .non (.cons (.var 2) (.cons .non .nil))))))]⟩
def d_law_by_goal : Df := ⟨4, 4, [
  .ite (.cmp .Eq (.var 0) (.int 0)) [.ret (.call (Str.ofString "there") (.cons (.var 1) (.cons (.var 3) (.cons (.var 2) .nil))))] [],
  .ite (.cmp .Eq (.var 0) (.int 1)) [.ret (.call (Str.ofString "any_order") (.cons (.var 1) (.cons (.str (Str.ofString "one")) (.cons (.var 3) (.cons (.var 2) .nil)))))] [],
  .ite (.cmp .Eq (.var 0) (.int 2)) [.ret (.call (Str.ofString "most_changes") (.cons (.var 1) (.cons (.str (Str.ofString "all")) (.cons (.var 3) (.cons (.var 2) .nil)))))] [],
  .ite (.cmp .Eq (.var 0) (.int 3)) [.ret (.call (Str.ofString "fair_order") (.cons (.var 1) (.cons (.str (Str.ofString "some")) (.cons (.var 3) (.cons (.var 2) .nil)))))] [],
  .ite (.cmp .Eq (.var 0) (.int 4)) [.ret (.call (Str.ofString "late_order") (.cons (.var 1) (.cons (.var 3) (.cons (.var 2) .nil))))] [],
  .ite (.cmp .Eq (.var 0) (.int 5)) [.ret (.call (Str.ofString "strength") (.cons (.var 1) (.cons (.int 1) (.cons (.str (Str.ofString "one")) (.cons (.var 3) .nil)))))] [],
  .ite (.cmp .Eq (.var 0) (.int 6)) [.ret (.call (Str.ofString "found_book") (.cons (.int 3) (.cons (.str (Str.ofString "some")) (.cons (.int 1) (.cons (.str (Str.ofString "one")) (.cons (.var 3) .nil))))))] [],
  .ret (.call (Str.ofString "shows_fair") (.cons (.var 1) (.cons (.str (Str.ofString "one")) (.cons (.var 3) (.cons (.var 2) (.cons .non .nil))))))]⟩
def d_law_others : Df := ⟨4, 4, [
  .ite (.cmp .Eq (.var 0) (.int 0)) [.ret (.call (Str.ofString "view") (.cons (.var 1) (.cons (.var 2) (.cons (.var 3) .nil))))] [],
  .ite (.cmp .Eq (.var 0) (.int 1)) [.ret (.call (Str.ofString "wishes") (.cons (.var 1) (.cons (.var 2) (.cons (.var 3) .nil))))] [],
  .ite (.cmp .Eq (.var 0) (.int 2)) [.ret (.call (Str.ofString "round_past") (.cons (.var 1) (.cons (.str (Str.ofString "one")) (.cons (.var 2) (.cons (.var 3) .nil)))))] [],
  .ite (.cmp .Eq (.var 0) (.int 3)) [.ret (.call (Str.ofString "kinds") (.cons (.var 1) (.cons (.var 3) .nil)))] [],
  .ite (.cmp .Eq (.var 0) (.int 4)) [.ret (.call (Str.ofString "strength") (.cons (.var 1) (.cons (.var 3) (.cons .non (.cons .non .nil)))))] [],
  .ite (.cmp .Eq (.var 0) (.int 5)) [.ret (.call (Str.ofString "views") (.cons (.int 3) (.cons (.str (Str.ofString "all")) (.cons (.var 3) .nil))))] [],
  .ret (.call (Str.ofString "found_book") (.cons (.int 3) (.cons (.str (Str.ofString "all")) (.cons (.var 3) (.cons .non (.cons .non .nil))))))]⟩
def d_law_told_k02 : Df := ⟨5, 7, [
  .tryE (.ite (.cmp .Eq (.var 0) (.int 0)) (.expr (.call (Str.ofString "_law_by_stand") (.cons (.var 1) (.cons (.var 2) (.cons (.var 4) .nil))))) (.ite (.cmp .Eq (.var 0) (.int 1)) (.expr (.call (Str.ofString "_law_more") (.cons (.var 1) (.cons (.var 2) (.cons (.var 4) .nil))))) (.ite (.cmp .Eq (.var 0) (.int 2)) (.expr (.call (Str.ofString "_law_by_order") (.cons (.var 1) (.cons (.var 2) (.cons (.var 3) (.cons (.var 4) .nil)))))) (.ite (.cmp .Eq (.var 0) (.int 3)) (.expr (.call (Str.ofString "_law_by_goal") (.cons (.var 1) (.cons (.var 2) (.cons (.var 3) (.cons (.var 4) .nil)))))) (.expr (.call (Str.ofString "_law_others") (.cons (.var 1) (.cons (.var 2) (.cons (.var 3) (.cons (.var 4) .nil)))))))))) [(Str.ofString "BadBook"), (Str.ofString "BadGoal"), (Str.ofString "BadHand"), (Str.ofString "BadOrder"), (Str.ofString "BadPicks"), (Str.ofString "BadPlace"), (Str.ofString "BadStand"), (Str.ofString "TooBig")] (Str.ofString "HandError") 5 [.set 6 (.isl [(Str.ofString "BadStand"), (Str.ofString "BadOrder"), (Str.ofString "BadGoal"), (Str.ofString "BadHand")]), .ret (.add (.var 6) (.isl [(Str.ofString "BadPlace"), (Str.ofString "TooBig")]))],
  .ret (.lst .nil)]⟩
def c_law_due_0 : DE := .lc (.one 1) (.rng1 (.int 6)) .no (.cmp .Eq (.var 1) (.var 0))
def d_law_due : Df := ⟨1, 2, [
  .ret c_law_due_0]⟩
def c_law_k02_0 : DE := .lc (.one 10) (.rng1 (.var 9)) (.some (.cmp .NotEq (.call (Str.ofString "_law_told") (.cons (.var 8) (.cons (.var 10) (.cons (.var 1) (.cons (.var 2) (.cons (.var 4) .nil)))))) (.call (Str.ofString "_law_due") (.cons (.int 0) .nil)))) (.var 10)
def b_law_k02_0 : List DS := [.ite c_law_k02_0 [.ret (.bl false)] []]
def c_law_k02_1 : DE := .lc (.one 10) (.rng1 (.int 8)) (.some (.cmp .NotEq (.call (Str.ofString "_law_told") (.cons (.int 2) (.cons (.var 10) (.cons (.var 1) (.cons (.var 2) (.cons (.var 4) .nil)))))) (.call (Str.ofString "_law_due") (.cons (.int 1) .nil)))) (.var 10)
def c_law_k02_2 : DE := .lc (.one 10) (.rng1 (.int 8)) (.some (.cmp .NotEq (.call (Str.ofString "_law_told") (.cons (.int 3) (.cons (.var 10) (.cons (.var 1) (.cons (.var 2) (.cons (.var 4) .nil)))))) (.call (Str.ofString "_law_due") (.cons (.int 2) .nil)))) (.var 10)
def c_law_k02_3 : DE := .lc (.one 10) (.rng1 (.int 7)) (.some (.cmp .NotEq (.call (Str.ofString "_law_told") (.cons (.int 4) (.cons (.var 10) (.cons (.var 1) (.cons (.var 2) (.cons (.var 4) .nil)))))) (.call (Str.ofString "_law_due") (.cons (.ix (.var 5) (.var 10)) .nil)))) (.var 10)
def d_law_k02 : Df := ⟨1, 11, [
  .set 1 (.call (Str.ofString "_law_book") (.cons (.var 0) (.cons (.int 2) .nil))),
  .setT [6, 7] (.call (Str.ofString "_law_many") (.cons (.var 0) (.cons (.int 2) .nil))),
  .set 2 (.call (Str.ofString "_law_stand") (.cons (.var 0) (.cons (.int 4) (.cons (.var 6) (.cons (.mn2 (.var 7) (.int 3)) .nil))))),
  .set 3 (.lst (.cons .non (.cons (.bi1 .list (.var 2)) (.cons (.tup .nil) (.cons (.bin .Add (.var 2) (.tup (.cons (.var 6) .nil))) (.cons (.bin .Add (.tup (.cons (.neg 1) .nil)) (.sl (.var 2) (.some (.int 1)) .no)) (.cons (.tup (.cons (.bl true) .nil)) (.cons (.tup (.cons (.str (Str.ofString "0")) .nil)) (.cons (.bin .Mult (.tup (.cons (.int 0) .nil)) (.int 5)) (.cons (.int 0) .nil)))))))))),
  .set 4 (.ix (.var 3) (.bin .Mod (.call (Str.ofString "_law_cell") (.cons (.var 0) (.cons (.int 0) .nil))) (.int 9))),
  .for (.many [8, 9]) (.seq (.lst (.cons (.tup (.cons (.int 0) (.cons (.int 8) .nil))) (.cons (.tup (.cons (.int 1) (.cons (.int 7) .nil))) .nil)))) b_law_k02_0,
  .set 4 (.ix (.lst (.cons .non (.cons (.str (Str.ofString "two")) (.cons (.str (Str.ofString "")) (.cons (.int 1) (.cons (.lst (.cons (.str (Str.ofString "one")) .nil)) (.cons (.tup (.cons (.str (Str.ofString "all")) .nil)) .nil))))))) (.bin .Mod (.call (Str.ofString "_law_cell") (.cons (.var 0) (.cons (.int 1) .nil))) (.int 6))),
  .ite c_law_k02_1 [.ret (.bl false)] [],
  .set 4 (.ix (.lst (.cons .non (.cons (.str (Str.ofString "gone")) (.cons (.str (Str.ofString "")) (.cons (.int 1) (.cons (.lst (.cons (.str (Str.ofString "met")) .nil)) (.cons (.tup (.cons (.str (Str.ofString "met")) .nil)) .nil))))))) (.bin .Mod (.call (Str.ofString "_law_cell") (.cons (.var 0) (.cons (.int 1) .nil))) (.int 6))),
  .ite c_law_k02_2 [.ret (.bl false)] [],
  .set 4 (.ix (.lst (.cons .non (.cons (.neg 1) (.cons (.bin .Add (.int 7) (.bin .Mod (.call (Str.ofString "_law_cell") (.cons (.var 0) (.cons (.int 1) .nil))) (.int 9))) (.cons (.bl true) (.cons (.str (Str.ofString "0")) (.cons (.lst (.cons (.int 0) .nil)) (.cons (.tup (.cons (.int 0) .nil)) .nil)))))))) (.bin .Mod (.call (Str.ofString "_law_cell") (.cons (.var 0) (.cons (.int 0) .nil))) (.int 7))),
  .set 5 (.lst (.cons (.int 3) (.cons (.int 3) (.cons (.int 4) (.cons (.int 5) (.cons (.int 5) (.cons (.int 5) (.cons (.int 5) .nil)))))))),
  .ret (.cmp .Eq c_law_k02_3 (.lst .nil))]⟩
end Cd
end Rh

set_option Elab.async false
set_option linter.all false
set_option maxRecDepth 100000
set_option maxHeartbeats 2000000
/-! What the core code computes: wishes. -/
namespace Rh
open PySem (PyData Str)
open Enc (e)
open Ord' (lt ok)
open Cd
/-- the move that the rules tell -/
def moveOf (rs : List (List Int × String)) (v : List Int) : String := match rs.find? fun r => decide (r.1 = v) with
  | some r => r.2
  | none => "stay"
section
variable {g : Str → Option PyData} {tab : Str → Option Df} {k : Nat}
theorem move_ok (h : tab (Str.ofString "move_for") = some d_move_for) (hk : 1 ≤ k) (n : Nat) (s : String) (rs : List (List Int × String)) (v : List Int) : run g tab k (Str.ofString "move_for") [bookT n s rs, iT v] = .ok (.str (Str.ofString (moveOf rs v))) := by
  refine run_W h hk rfl ?_
  refine W_find (enc := pyRule) (fun j => [some (.sh (bookT n s rs)), some (.sh (iT v)), j]) (fun r => decide (r.1 = v)) (fun r => .str (Str.ofString r.2)) rs none ?_ (fun j r hr => ?_) (fun r hr => ?_) (fun j hr => ?_)
  · simp only [Q.var, Q.int, Q.neg, Q.str, Q.bl, Q.non, Q.glob, Q.tup, Q.lst, Q.bin, Q.cmp, Q.chain, Q.inG, Q.nt, Q.bop, Q.ite, Q.ix, Q.sl, Q.tl0, Q.rev, Q.disp, Q.call, Q.bi1, Q.mn2, Q.isi, Q.cnt, Q.tupRg, Q.lstRg, Q.lenO, Q.ixO, Q.nil, Q.cons, Q.b1, Q.and2, Q.or2, Q.no, Q.some_, Q.seq, Q.rng1, Q.rng2, Q.enm, bind_ok, bind_err, rofO_some, Option.map_some, truth, List.getElem?_cons_succ, List.getElem?_cons_zero, len_le0, len_le1, len_le2, len_le3, len_le4, len_le5, limN0, limN1, limN2, limN3, limN4, limN5, if_true, if_false, entry, List.map_cons, List.map_nil, List.replicate, WT, lcT, setT1, setT2, setT3, wipe1, wipe2, wipe3, Q.cno, Q.csome, List.set_cons_zero, List.set_cons_succ, cmpE, cmpN, cmpLtI, cmpLeI, cmpGtI, cmpGeI, cmpInL, cmpInT, cmpNiL, cmpNiT, addI, subI, lenL, lenT, tupL, lstT, lstL, isiLL, isiTT, isiBB, isiII, isiSS, book_ix2]
  · simp only [b_move_for_0, Q.var, Q.int, Q.neg, Q.str, Q.bl, Q.non, Q.glob, Q.tup, Q.lst, Q.bin, Q.cmp, Q.chain, Q.inG, Q.nt, Q.bop, Q.ite, Q.ix, Q.sl, Q.tl0, Q.rev, Q.disp, Q.call, Q.bi1, Q.mn2, Q.isi, Q.cnt, Q.tupRg, Q.lstRg, Q.lenO, Q.ixO, Q.nil, Q.cons, Q.b1, Q.and2, Q.or2, Q.no, Q.some_, Q.seq, Q.rng1, Q.rng2, Q.enm, bind_ok, bind_err, rofO_some, Option.map_some, truth, List.getElem?_cons_succ, List.getElem?_cons_zero, len_le0, len_le1, len_le2, len_le3, len_le4, len_le5, limN0, limN1, limN2, limN3, limN4, limN5, if_true, if_false, entry, List.map_cons, List.map_nil, List.replicate, WT, lcT, setT1, setT2, setT3, wipe1, wipe2, wipe3, Q.cno, Q.csome, List.set_cons_zero, List.set_cons_succ, cmpE, cmpN, cmpLtI, cmpLeI, cmpGtI, cmpGeI, cmpInL, cmpInT, cmpNiL, cmpNiT, addI, subI, lenL, lenT, tupL, lstT, lstL, isiLL, isiTT, isiBB, isiII, isiSS, W_nil, W_set, W_setT, W_newL, W_newD, W_app, W_ext, W_dput, W_expr, W_ret, W_retN, W_raise, W_ite, W_frz, setK_ok, setK_err, oevK_some, setTK_ok, setTK_err, ifK_true, newLK_ok, appK_is, appK2_ok, appK2_err, extK_is, extK2_ok, extK2_err, dputK_ok, dputK_err, dputK2_is, dputK3_ok, exprK_ok, exprK_err, retK_ok, retK_err, iteK_ok, iteK_err, tstK_true, tstK_false, tstK_not, tstK_dec, frzK_is, slot, List.cons_append, List.nil_append, retO, rule_ix0, rule_ix1, eq_row]
    by_cases h : r.1 = v
    · simp [h]
    · simp [h]
  · simp [retO, moveOf, hr]
  · simp only [Q.var, Q.int, Q.neg, Q.str, Q.bl, Q.non, Q.glob, Q.tup, Q.lst, Q.bin, Q.cmp, Q.chain, Q.inG, Q.nt, Q.bop, Q.ite, Q.ix, Q.sl, Q.tl0, Q.rev, Q.disp, Q.call, Q.bi1, Q.mn2, Q.isi, Q.cnt, Q.tupRg, Q.lstRg, Q.lenO, Q.ixO, Q.nil, Q.cons, Q.b1, Q.and2, Q.or2, Q.no, Q.some_, Q.seq, Q.rng1, Q.rng2, Q.enm, bind_ok, bind_err, rofO_some, Option.map_some, truth, List.getElem?_cons_succ, List.getElem?_cons_zero, len_le0, len_le1, len_le2, len_le3, len_le4, len_le5, limN0, limN1, limN2, limN3, limN4, limN5, if_true, if_false, entry, List.map_cons, List.map_nil, List.replicate, WT, lcT, setT1, setT2, setT3, wipe1, wipe2, wipe3, Q.cno, Q.csome, List.set_cons_zero, List.set_cons_succ, cmpE, cmpN, cmpLtI, cmpLeI, cmpGtI, cmpGeI, cmpInL, cmpInT, cmpNiL, cmpNiT, addI, subI, lenL, lenT, tupL, lstT, lstL, isiLL, isiTT, isiBB, isiII, isiSS, W_nil, W_set, W_setT, W_newL, W_newD, W_app, W_ext, W_dput, W_expr, W_ret, W_retN, W_raise, W_ite, W_frz, setK_ok, setK_err, oevK_some, setTK_ok, setTK_err, ifK_true, newLK_ok, appK_is, appK2_ok, appK2_err, extK_is, extK2_ok, extK2_err, dputK_ok, dputK_err, dputK2_is, dputK3_ok, exprK_ok, exprK_err, retK_ok, retK_err, iteK_ok, iteK_err, tstK_true, tstK_false, tstK_not, tstK_dec, frzK_is, slot, List.cons_append, List.nil_append, retO]
    simp [moveOf, hr]
/-- where a hand at a place may go -/
def wishL (n : Nat) (s : String) (rs : List (List Int × String)) (st : List Int) (p : Int) : List Int :=
  if moveOf rs (viewL n s st p) = "stay" then [p] else
  if viewL n s st p = turned (viewL n s st p) then sortL [(p + 1) % (n : Int), (p - 1) % (n : Int)] else
  if moveOf rs (viewL n s st p) = "back" then [(p + (0 - if seenL n s st p 1 = viewL n s st p then 1 else -1)) % (n : Int)] else [(p + if seenL n s st p 1 = viewL n s st p then 1 else -1) % (n : Int)]
structure BaseW (g : Str → Option PyData) (tab : Str → Option Df) : Prop extends BaseV g tab where
  move_for : tab (Str.ofString "move_for") = some d_move_for
  wish_at : tab (Str.ofString "wish_at") = some d_wish_at
theorem mod_n {n : Nat} (hn : 0 < n) (a : Int) : binD .Mod (.int a) (.int (n : Int)) = some (.int (a % n)) := by
  show (if (0 : Int) < n then some (PyData.int (a % n)) else none) = _
  rw [if_pos (by omega)]
theorem sub_int (a b : Int) : binD .Sub (.int a) (.int b) = some (.int (a - b)) := rfl
theorem lim1 : (1 : Nat) ≤ lim := by decide
theorem lim0 : (0 : Nat) ≤ lim := by decide
theorem lim2 : (2 : Nat) ≤ lim := by decide
theorem sorted_two (a b : Int) : bi1D .sorted (.list [.int a, .int b]) = some (.list ((sortL [a, b]).map .int)) := sorted_list (α := Int) [a, b] (fun _ _ => rfl) lim2
theorem wish_ok (B : BaseW g tab) (hk : 4 ≤ k) {n : Nat} (hn : 0 < n) (hn2 : n ≤ 1000) (s : String) (rs : List (List Int × String)) (st : List Int) (p : Int) :
    run g tab k (Str.ofString "wish_at") [bookT n s rs, iT st, .int p] = .ok (.list ((wishL n s rs st p).map .int)) := by
  refine run_W B.wish_at (by omega) rfl ?_
  have e1 : run g tab (k - 1) (Str.ofString "view_at") [.int n, .str (Str.ofString s), iT st, .int p] = .ok (iT (viewL n s st p)) :=
    levR 3 (fun k => view_at_ok B.told_apart B.seen_along B.turned_view B.view_at n hn hn2 s st p) (by omega)
  have e2 := move_ok (g := g) (k := k - 1) B.move_for (by omega) n s rs (viewL n s st p)
  have e3 : run g tab (k - 1) (Str.ofString "turned_view") [iT (viewL n s st p)] = .ok (iT (turned (viewL n s st p))) :=
    levR 1 (fun k => turned_ok B.turned_view _ (by rw [viewL_len]; exact hn2)) (by omega)
  have e4 : run g tab (k - 1) (Str.ofString "seen_along") [.int n, .str (Str.ofString s), iT st, .int p, .int 1] = .ok (iT (seenL n s st p 1)) :=
    levR 2 (fun k => seen_ok B.told_apart B.seen_along n hn hn2 s st p 1) (by omega)
  unfold wishL
  by_cases h1 : moveOf rs (viewL n s st p) = "stay"
  · simp only [d_wish_at, Q.var, Q.int, Q.neg, Q.str, Q.bl, Q.non, Q.glob, Q.tup, Q.lst, Q.bin, Q.cmp, Q.chain, Q.inG, Q.nt, Q.bop, Q.ite, Q.ix, Q.sl, Q.tl0, Q.rev, Q.disp, Q.call, Q.bi1, Q.mn2, Q.isi, Q.cnt, Q.tupRg, Q.lstRg, Q.lenO, Q.ixO, Q.nil, Q.cons, Q.b1, Q.and2, Q.or2, Q.no, Q.some_, Q.seq, Q.rng1, Q.rng2, Q.enm, bind_ok, bind_err, rofO_some, Option.map_some, truth, List.getElem?_cons_succ, List.getElem?_cons_zero, len_le0, len_le1, len_le2, len_le3, len_le4, len_le5, limN0, limN1, limN2, limN3, limN4, limN5, if_true, if_false, entry, List.map_cons, List.map_nil, List.replicate, WT, lcT, setT1, setT2, setT3, wipe1, wipe2, wipe3, Q.cno, Q.csome, List.set_cons_zero, List.set_cons_succ, cmpE, cmpN, cmpLtI, cmpLeI, cmpGtI, cmpGeI, cmpInL, cmpInT, cmpNiL, cmpNiT, addI, subI, lenL, lenT, tupL, lstT, lstL, isiLL, isiTT, isiBB, isiII, isiSS, W_nil, W_set, W_setT, W_newL, W_newD, W_app, W_ext, W_dput, W_expr, W_ret, W_retN, W_raise, W_ite, W_frz, setK_ok, setK_err, oevK_some, setTK_ok, setTK_err, ifK_true, newLK_ok, appK_is, appK2_ok, appK2_err, extK_is, extK2_ok, extK2_err, dputK_ok, dputK_err, dputK2_is, dputK3_ok, exprK_ok, exprK_err, retK_ok, retK_err, iteK_ok, iteK_err, tstK_true, tstK_false, tstK_not, tstK_dec, frzK_is, slot, List.cons_append, List.nil_append, retO, book_ix0, book_ix1, e1, e2, eq_str, h1]
  · by_cases h2 : viewL n s st p = turned (viewL n s st p)
    · have h2' : turned (viewL n s st p) = viewL n s st p := h2.symm
      simp only [d_wish_at, Q.var, Q.int, Q.neg, Q.str, Q.bl, Q.non, Q.glob, Q.tup, Q.lst, Q.bin, Q.cmp, Q.chain, Q.inG, Q.nt, Q.bop, Q.ite, Q.ix, Q.sl, Q.tl0, Q.rev, Q.disp, Q.call, Q.bi1, Q.mn2, Q.isi, Q.cnt, Q.tupRg, Q.lstRg, Q.lenO, Q.ixO, Q.nil, Q.cons, Q.b1, Q.and2, Q.or2, Q.no, Q.some_, Q.seq, Q.rng1, Q.rng2, Q.enm, bind_ok, bind_err, rofO_some, Option.map_some, truth, List.getElem?_cons_succ, List.getElem?_cons_zero, len_le0, len_le1, len_le2, len_le3, len_le4, len_le5, limN0, limN1, limN2, limN3, limN4, limN5, if_true, if_false, entry, List.map_cons, List.map_nil, List.replicate, WT, lcT, setT1, setT2, setT3, wipe1, wipe2, wipe3, Q.cno, Q.csome, List.set_cons_zero, List.set_cons_succ, cmpE, cmpN, cmpLtI, cmpLeI, cmpGtI, cmpGeI, cmpInL, cmpInT, cmpNiL, cmpNiT, addI, subI, lenL, lenT, tupL, lstT, lstL, isiLL, isiTT, isiBB, isiII, isiSS, W_nil, W_set, W_setT, W_newL, W_newD, W_app, W_ext, W_dput, W_expr, W_ret, W_retN, W_raise, W_ite, W_frz, setK_ok, setK_err, oevK_some, setTK_ok, setTK_err, ifK_true, newLK_ok, appK_is, appK2_ok, appK2_err, extK_is, extK2_ok, extK2_err, dputK_ok, dputK_err, dputK2_is, dputK3_ok, exprK_ok, exprK_err, retK_ok, retK_err, iteK_ok, iteK_err, tstK_true, tstK_false, tstK_not, tstK_dec, frzK_is, slot, List.cons_append, List.nil_append, retO, book_ix0, book_ix1, e1, e2, e3, eq_str, eq_row, add_int, sub_int, mod_n hn, sorted_two, h1, h2']
    · by_cases h3 : moveOf rs (viewL n s st p) = "back"
      · by_cases h4 : seenL n s st p 1 = viewL n s st p
        · simp [d_wish_at, Q.var, Q.int, Q.neg, Q.str, Q.bl, Q.non, Q.glob, Q.tup, Q.lst, Q.bin, Q.cmp, Q.chain, Q.inG, Q.nt, Q.bop, Q.ite, Q.ix, Q.sl, Q.tl0, Q.rev, Q.disp, Q.call, Q.bi1, Q.mn2, Q.isi, Q.cnt, Q.tupRg, Q.lstRg, Q.lenO, Q.ixO, Q.nil, Q.cons, Q.b1, Q.and2, Q.or2, Q.no, Q.some_, Q.seq, Q.rng1, Q.rng2, Q.enm, bind_ok, bind_err, rofO_some, Option.map_some, truth, List.getElem?_cons_succ, List.getElem?_cons_zero, len_le0, len_le1, len_le2, len_le3, len_le4, len_le5, limN0, limN1, limN2, limN3, limN4, limN5, if_true, if_false, entry, List.map_cons, List.map_nil, List.replicate, WT, lcT, setT1, setT2, setT3, wipe1, wipe2, wipe3, Q.cno, Q.csome, List.set_cons_zero, List.set_cons_succ, cmpE, cmpN, cmpLtI, cmpLeI, cmpGtI, cmpGeI, cmpInL, cmpInT, cmpNiL, cmpNiT, addI, subI, lenL, lenT, tupL, lstT, lstL, isiLL, isiTT, isiBB, isiII, isiSS, W_nil, W_set, W_setT, W_newL, W_newD, W_app, W_ext, W_dput, W_expr, W_ret, W_retN, W_raise, W_ite, W_frz, setK_ok, setK_err, oevK_some, setTK_ok, setTK_err, ifK_true, newLK_ok, appK_is, appK2_ok, appK2_err, extK_is, extK2_ok, extK2_err, dputK_ok, dputK_err, dputK2_is, dputK3_ok, exprK_ok, exprK_err, retK_ok, retK_err, iteK_ok, iteK_err, tstK_true, tstK_false, tstK_not, tstK_dec, frzK_is, slot, List.cons_append, List.nil_append, retO, book_ix0, book_ix1, e1, e2, e3, e4, eq_str, eq_row, add_int, sub_int, mod_n hn, h1, h2, h3, h4]
        · simp [d_wish_at, Q.var, Q.int, Q.neg, Q.str, Q.bl, Q.non, Q.glob, Q.tup, Q.lst, Q.bin, Q.cmp, Q.chain, Q.inG, Q.nt, Q.bop, Q.ite, Q.ix, Q.sl, Q.tl0, Q.rev, Q.disp, Q.call, Q.bi1, Q.mn2, Q.isi, Q.cnt, Q.tupRg, Q.lstRg, Q.lenO, Q.ixO, Q.nil, Q.cons, Q.b1, Q.and2, Q.or2, Q.no, Q.some_, Q.seq, Q.rng1, Q.rng2, Q.enm, bind_ok, bind_err, rofO_some, Option.map_some, truth, List.getElem?_cons_succ, List.getElem?_cons_zero, len_le0, len_le1, len_le2, len_le3, len_le4, len_le5, limN0, limN1, limN2, limN3, limN4, limN5, if_true, if_false, entry, List.map_cons, List.map_nil, List.replicate, WT, lcT, setT1, setT2, setT3, wipe1, wipe2, wipe3, Q.cno, Q.csome, List.set_cons_zero, List.set_cons_succ, cmpE, cmpN, cmpLtI, cmpLeI, cmpGtI, cmpGeI, cmpInL, cmpInT, cmpNiL, cmpNiT, addI, subI, lenL, lenT, tupL, lstT, lstL, isiLL, isiTT, isiBB, isiII, isiSS, W_nil, W_set, W_setT, W_newL, W_newD, W_app, W_ext, W_dput, W_expr, W_ret, W_retN, W_raise, W_ite, W_frz, setK_ok, setK_err, oevK_some, setTK_ok, setTK_err, ifK_true, newLK_ok, appK_is, appK2_ok, appK2_err, extK_is, extK2_ok, extK2_err, dputK_ok, dputK_err, dputK2_is, dputK3_ok, exprK_ok, exprK_err, retK_ok, retK_err, iteK_ok, iteK_err, tstK_true, tstK_false, tstK_not, tstK_dec, frzK_is, slot, List.cons_append, List.nil_append, retO, book_ix0, book_ix1, e1, e2, e3, e4, eq_str, eq_row, add_int, sub_int, mod_n hn, h1, h2, h3, h4]
      · by_cases h4 : seenL n s st p 1 = viewL n s st p
        · simp [d_wish_at, Q.var, Q.int, Q.neg, Q.str, Q.bl, Q.non, Q.glob, Q.tup, Q.lst, Q.bin, Q.cmp, Q.chain, Q.inG, Q.nt, Q.bop, Q.ite, Q.ix, Q.sl, Q.tl0, Q.rev, Q.disp, Q.call, Q.bi1, Q.mn2, Q.isi, Q.cnt, Q.tupRg, Q.lstRg, Q.lenO, Q.ixO, Q.nil, Q.cons, Q.b1, Q.and2, Q.or2, Q.no, Q.some_, Q.seq, Q.rng1, Q.rng2, Q.enm, bind_ok, bind_err, rofO_some, Option.map_some, truth, List.getElem?_cons_succ, List.getElem?_cons_zero, len_le0, len_le1, len_le2, len_le3, len_le4, len_le5, limN0, limN1, limN2, limN3, limN4, limN5, if_true, if_false, entry, List.map_cons, List.map_nil, List.replicate, WT, lcT, setT1, setT2, setT3, wipe1, wipe2, wipe3, Q.cno, Q.csome, List.set_cons_zero, List.set_cons_succ, cmpE, cmpN, cmpLtI, cmpLeI, cmpGtI, cmpGeI, cmpInL, cmpInT, cmpNiL, cmpNiT, addI, subI, lenL, lenT, tupL, lstT, lstL, isiLL, isiTT, isiBB, isiII, isiSS, W_nil, W_set, W_setT, W_newL, W_newD, W_app, W_ext, W_dput, W_expr, W_ret, W_retN, W_raise, W_ite, W_frz, setK_ok, setK_err, oevK_some, setTK_ok, setTK_err, ifK_true, newLK_ok, appK_is, appK2_ok, appK2_err, extK_is, extK2_ok, extK2_err, dputK_ok, dputK_err, dputK2_is, dputK3_ok, exprK_ok, exprK_err, retK_ok, retK_err, iteK_ok, iteK_err, tstK_true, tstK_false, tstK_not, tstK_dec, frzK_is, slot, List.cons_append, List.nil_append, retO, book_ix0, book_ix1, e1, e2, e3, e4, eq_str, eq_row, add_int, sub_int, mod_n hn, h1, h2, h3, h4]
        · simp [d_wish_at, Q.var, Q.int, Q.neg, Q.str, Q.bl, Q.non, Q.glob, Q.tup, Q.lst, Q.bin, Q.cmp, Q.chain, Q.inG, Q.nt, Q.bop, Q.ite, Q.ix, Q.sl, Q.tl0, Q.rev, Q.disp, Q.call, Q.bi1, Q.mn2, Q.isi, Q.cnt, Q.tupRg, Q.lstRg, Q.lenO, Q.ixO, Q.nil, Q.cons, Q.b1, Q.and2, Q.or2, Q.no, Q.some_, Q.seq, Q.rng1, Q.rng2, Q.enm, bind_ok, bind_err, rofO_some, Option.map_some, truth, List.getElem?_cons_succ, List.getElem?_cons_zero, len_le0, len_le1, len_le2, len_le3, len_le4, len_le5, limN0, limN1, limN2, limN3, limN4, limN5, if_true, if_false, entry, List.map_cons, List.map_nil, List.replicate, WT, lcT, setT1, setT2, setT3, wipe1, wipe2, wipe3, Q.cno, Q.csome, List.set_cons_zero, List.set_cons_succ, cmpE, cmpN, cmpLtI, cmpLeI, cmpGtI, cmpGeI, cmpInL, cmpInT, cmpNiL, cmpNiT, addI, subI, lenL, lenT, tupL, lstT, lstL, isiLL, isiTT, isiBB, isiII, isiSS, W_nil, W_set, W_setT, W_newL, W_newD, W_app, W_ext, W_dput, W_expr, W_ret, W_retN, W_raise, W_ite, W_frz, setK_ok, setK_err, oevK_some, setTK_ok, setTK_err, ifK_true, newLK_ok, appK_is, appK2_ok, appK2_err, extK_is, extK2_ok, extK2_err, dputK_ok, dputK_err, dputK2_is, dputK3_ok, exprK_ok, exprK_err, retK_ok, retK_err, iteK_ok, iteK_err, tstK_true, tstK_false, tstK_not, tstK_dec, frzK_is, slot, List.cons_append, List.nil_append, retO, book_ix0, book_ix1, e1, e2, e3, e4, eq_str, eq_row, add_int, sub_int, mod_n hn, h1, h2, h3, h4]
end
end Rh

set_option Elab.async false
set_option linter.all false
set_option maxRecDepth 100000
set_option maxHeartbeats 2000000
/-! What the core code computes: still stands, and the law's own wishes. -/
namespace Rh
open PySem (PyData Str)
open Enc (e)
open Ord' (lt ok)
open Cd
/-- no hand would move -/
def stillL (n : Nat) (s : String) (rs : List (List Int × String)) (st : List Int) : Bool := st.all fun p => decide (wishL n s rs st p = [p])
theorem eq_ints (a b : List Int) : eqD (.list (a.map .int)) (.list (b.map .int)) = some (decide (a = b)) := eq_list (α := Int) a b
theorem filter_nil_all {α : Type} (p : α → Bool) : ∀ xs : List α, (xs.filter fun x => !p x).isEmpty = xs.all p
  | [] => rfl
  | x :: r => by
    rw [List.filter_cons, List.all_cons]
    cases h : p x with
    | true => simpa using filter_nil_all p r
    | false => simp
section
variable {g : Str → Option PyData} {tab : Str → Option Df} {k : Nat}
structure BaseS (g : Str → Option PyData) (tab : Str → Option Df) : Prop extends BaseW g tab where
  is_still : tab (Str.ofString "is_still") = some d_is_still
theorem is_still_ok (B : BaseS g tab) (hk : 5 ≤ k) {n : Nat} (hn : 0 < n) (hn2 : n ≤ 1000) (s : String) (rs : List (List Int × String)) (st : List Int) (hst : st.length ≤ 1000) :
    run g tab k (Str.ofString "is_still") [bookT n s rs, iT st] = .ok (.bool (stillL n s rs st)) := by
  refine run_W B.is_still (by omega) rfl ?_
  have e1 : ∀ p, run g tab (k - 1) (Str.ofString "wish_at") [bookT n s rs, iT st, .int p] = .ok (.list ((wishL n s rs st p).map .int)) := fun p => wish_ok B.toBaseW (by omega) hn hn2 s rs st p
  have key : ev g (run g tab (k - 1)) c_is_still_0 [some (.sh (bookT n s rs)), some (.sh (iT st)), none] = .ok (.list (((st.filter fun p => !decide (wishL n s rs st p = [p])).map id).map .int)) := by
    refine lc_filter (ea := .int) _ _ st (by simp only [Q.var, Q.int, Q.neg, Q.str, Q.bl, Q.non, Q.glob, Q.tup, Q.lst, Q.bin, Q.cmp, Q.chain, Q.inG, Q.nt, Q.bop, Q.ite, Q.ix, Q.sl, Q.tl0, Q.rev, Q.disp, Q.call, Q.bi1, Q.mn2, Q.isi, Q.cnt, Q.tupRg, Q.lstRg, Q.lenO, Q.ixO, Q.nil, Q.cons, Q.b1, Q.and2, Q.or2, Q.no, Q.some_, Q.seq, Q.rng1, Q.rng2, Q.enm, bind_ok, bind_err, rofO_some, Option.map_some, truth, List.getElem?_cons_succ, List.getElem?_cons_zero, len_le0, len_le1, len_le2, len_le3, len_le4, len_le5, limN0, limN1, limN2, limN3, limN4, limN5, if_true, if_false, entry, List.map_cons, List.map_nil, List.replicate, WT, lcT, setT1, setT2, setT3, wipe1, wipe2, wipe3, Q.cno, Q.csome, List.set_cons_zero, List.set_cons_succ, cmpE, cmpN, cmpLtI, cmpLeI, cmpGtI, cmpGeI, cmpInL, cmpInT, cmpNiL, cmpNiT, addI, subI, lenL, lenT, tupL, lstT, lstL, isiLL, isiTT, isiBB, isiII, isiSS]) (lim_of (by omega)) fun p hp => ?_
    have := eq_ints (wishL n s rs st p) [p]
    rw [List.map_cons, List.map_nil] at this
    simp only [Q.var, Q.int, Q.neg, Q.str, Q.bl, Q.non, Q.glob, Q.tup, Q.lst, Q.bin, Q.cmp, Q.chain, Q.inG, Q.nt, Q.bop, Q.ite, Q.ix, Q.sl, Q.tl0, Q.rev, Q.disp, Q.call, Q.bi1, Q.mn2, Q.isi, Q.cnt, Q.tupRg, Q.lstRg, Q.lenO, Q.ixO, Q.nil, Q.cons, Q.b1, Q.and2, Q.or2, Q.no, Q.some_, Q.seq, Q.rng1, Q.rng2, Q.enm, bind_ok, bind_err, rofO_some, Option.map_some, truth, List.getElem?_cons_succ, List.getElem?_cons_zero, len_le0, len_le1, len_le2, len_le3, len_le4, len_le5, limN0, limN1, limN2, limN3, limN4, limN5, if_true, if_false, entry, List.map_cons, List.map_nil, List.replicate, WT, lcT, setT1, setT2, setT3, wipe1, wipe2, wipe3, Q.cno, Q.csome, List.set_cons_zero, List.set_cons_succ, cmpE, cmpN, cmpLtI, cmpLeI, cmpGtI, cmpGeI, cmpInL, cmpInT, cmpNiL, cmpNiT, addI, subI, lenL, lenT, tupL, lstT, lstL, isiLL, isiTT, isiBB, isiII, isiSS, e1, this, id]
  simp only [d_is_still, Q.var, Q.int, Q.neg, Q.str, Q.bl, Q.non, Q.glob, Q.tup, Q.lst, Q.bin, Q.cmp, Q.chain, Q.inG, Q.nt, Q.bop, Q.ite, Q.ix, Q.sl, Q.tl0, Q.rev, Q.disp, Q.call, Q.bi1, Q.mn2, Q.isi, Q.cnt, Q.tupRg, Q.lstRg, Q.lenO, Q.ixO, Q.nil, Q.cons, Q.b1, Q.and2, Q.or2, Q.no, Q.some_, Q.seq, Q.rng1, Q.rng2, Q.enm, bind_ok, bind_err, rofO_some, Option.map_some, truth, List.getElem?_cons_succ, List.getElem?_cons_zero, len_le0, len_le1, len_le2, len_le3, len_le4, len_le5, limN0, limN1, limN2, limN3, limN4, limN5, if_true, if_false, entry, List.map_cons, List.map_nil, List.replicate, WT, lcT, setT1, setT2, setT3, wipe1, wipe2, wipe3, Q.cno, Q.csome, List.set_cons_zero, List.set_cons_succ, cmpE, cmpN, cmpLtI, cmpLeI, cmpGtI, cmpGeI, cmpInL, cmpInT, cmpNiL, cmpNiT, addI, subI, lenL, lenT, tupL, lstT, lstL, isiLL, isiTT, isiBB, isiII, isiSS, W_nil, W_set, W_setT, W_newL, W_newD, W_app, W_ext, W_dput, W_expr, W_ret, W_retN, W_raise, W_ite, W_frz, setK_ok, setK_err, oevK_some, setTK_ok, setTK_err, ifK_true, newLK_ok, appK_is, appK2_ok, appK2_err, extK_is, extK2_ok, extK2_err, dputK_ok, dputK_err, dputK2_is, dputK3_ok, exprK_ok, exprK_err, retK_ok, retK_err, iteK_ok, iteK_err, tstK_true, tstK_false, tstK_not, tstK_dec, frzK_is, slot, List.cons_append, List.nil_append, retO, key]
  unfold stillL
  rw [← filter_nil_all]
  simp
structure BaseK4 (g : Str → Option PyData) (tab : Str → Option Df) : Prop extends BaseS g tab where
  still : tab (Str.ofString "still") = some d_still
  view : tab (Str.ofString "view") = some d_view
  wishes : tab (Str.ofString "wishes") = some d_wishes
theorem look_ok' (B : Base g tab) (hk : 5 ≤ k) {n : Nat} {s : String} {rs : List (List Int × String)} (h : IsB n s rs) {st : List Int} (hs : IsS n st) : run g tab k (Str.ofString "look") [bookT n s rs, iT st] = .ok .none :=
  levR 5 (fun k => look_ok B h hs) hk
theorem still_ok (B : BaseS g tab) (ht : tab (Str.ofString "still") = some d_still) (hk : 6 ≤ k) {n : Nat} {s : String} {rs : List (List Int × String)} (h : IsB n s rs) {st : List Int} (hs : IsS n st) : run g tab k (Str.ofString "still") [bookT n s rs, iT st] = .ok (.bool (stillL n s rs st)) := by
  refine run_W ht (by omega) rfl ?_
  have e1 := look_ok' (g := g) (k := k - 1) B.toBase (by omega) h hs
  have e2 := is_still_ok (g := g) (k := k - 1) B (by omega) (n := n) (by have := h.lo; omega) (by have := h.hi; omega) s rs st (by have := hs.hi; omega)
  simp only [d_still, Q.var, Q.int, Q.neg, Q.str, Q.bl, Q.non, Q.glob, Q.tup, Q.lst, Q.bin, Q.cmp, Q.chain, Q.inG, Q.nt, Q.bop, Q.ite, Q.ix, Q.sl, Q.tl0, Q.rev, Q.disp, Q.call, Q.bi1, Q.mn2, Q.isi, Q.cnt, Q.tupRg, Q.lstRg, Q.lenO, Q.ixO, Q.nil, Q.cons, Q.b1, Q.and2, Q.or2, Q.no, Q.some_, Q.seq, Q.rng1, Q.rng2, Q.enm, bind_ok, bind_err, rofO_some, Option.map_some, truth, List.getElem?_cons_succ, List.getElem?_cons_zero, len_le0, len_le1, len_le2, len_le3, len_le4, len_le5, limN0, limN1, limN2, limN3, limN4, limN5, if_true, if_false, entry, List.map_cons, List.map_nil, List.replicate, WT, lcT, setT1, setT2, setT3, wipe1, wipe2, wipe3, Q.cno, Q.csome, List.set_cons_zero, List.set_cons_succ, cmpE, cmpN, cmpLtI, cmpLeI, cmpGtI, cmpGeI, cmpInL, cmpInT, cmpNiL, cmpNiT, addI, subI, lenL, lenT, tupL, lstT, lstL, isiLL, isiTT, isiBB, isiII, isiSS, W_nil, W_set, W_setT, W_newL, W_newD, W_app, W_ext, W_dput, W_expr, W_ret, W_retN, W_raise, W_ite, W_frz, setK_ok, setK_err, oevK_some, setTK_ok, setTK_err, ifK_true, newLK_ok, appK_is, appK2_ok, appK2_err, extK_is, extK2_ok, extK2_err, dputK_ok, dputK_err, dputK2_is, dputK3_ok, exprK_ok, exprK_err, retK_ok, retK_err, iteK_ok, iteK_err, tstK_true, tstK_false, tstK_not, tstK_dec, frzK_is, slot, List.cons_append, List.nil_append, retO, e1, e2]
theorem wishes_ok (B : BaseW g tab) (hv : tab (Str.ofString "view") = some d_view) (ht : tab (Str.ofString "wishes") = some d_wishes) (hk : 7 ≤ k) {n : Nat} {s : String} {rs : List (List Int × String)} (h : IsB n s rs) {st : List Int} (hs : IsS n st) {j : Nat} {p : Int} (hj : st[j]? = some p) :
    run g tab k (Str.ofString "wishes") [bookT n s rs, iT st, .int j] = .ok (.list ((wishL n s rs st p).map .int)) := by
  refine run_W ht (by omega) rfl ?_
  have e1 : run g tab (k - 1) (Str.ofString "view") [bookT n s rs, iT st, .int j] = .ok (iT (viewL n s st p)) := levR 6 (fun k => view_ok B.toBaseV hv h hs hj) (by omega)
  have e2 := wish_ok (g := g) (k := k - 1) B (by omega) (n := n) (by have := h.lo; omega) (by have := h.hi; omega) s rs st p
  simp only [d_wishes, Q.var, Q.int, Q.neg, Q.str, Q.bl, Q.non, Q.glob, Q.tup, Q.lst, Q.bin, Q.cmp, Q.chain, Q.inG, Q.nt, Q.bop, Q.ite, Q.ix, Q.sl, Q.tl0, Q.rev, Q.disp, Q.call, Q.bi1, Q.mn2, Q.isi, Q.cnt, Q.tupRg, Q.lstRg, Q.lenO, Q.ixO, Q.nil, Q.cons, Q.b1, Q.and2, Q.or2, Q.no, Q.some_, Q.seq, Q.rng1, Q.rng2, Q.enm, bind_ok, bind_err, rofO_some, Option.map_some, truth, List.getElem?_cons_succ, List.getElem?_cons_zero, len_le0, len_le1, len_le2, len_le3, len_le4, len_le5, limN0, limN1, limN2, limN3, limN4, limN5, if_true, if_false, entry, List.map_cons, List.map_nil, List.replicate, WT, lcT, setT1, setT2, setT3, wipe1, wipe2, wipe3, Q.cno, Q.csome, List.set_cons_zero, List.set_cons_succ, cmpE, cmpN, cmpLtI, cmpLeI, cmpGtI, cmpGeI, cmpInL, cmpInT, cmpNiL, cmpNiT, addI, subI, lenL, lenT, tupL, lstT, lstL, isiLL, isiTT, isiBB, isiII, isiSS, W_nil, W_set, W_setT, W_newL, W_newD, W_app, W_ext, W_dput, W_expr, W_ret, W_retN, W_raise, W_ite, W_frz, setK_ok, setK_err, oevK_some, setTK_ok, setTK_err, ifK_true, newLK_ok, appK_is, appK2_ok, appK2_err, extK_is, extK2_ok, extK2_err, dputK_ok, dputK_err, dputK2_is, dputK3_ok, exprK_ok, exprK_err, retK_ok, retK_err, iteK_ok, iteK_err, tstK_true, tstK_false, tstK_not, tstK_dec, frzK_is, slot, List.cons_append, List.nil_append, retO, e1, e2, stand_ix hj]
/-! ### the law's own -/
theorem lt_rows (a b : List Int) : cmpD .Lt (iT a) (iT b) = some (decide (a < b)) := by
  show (intsD (a.map .int)).bind _ = _
  rw [intsD_map]
  show (intsD (b.map .int)).map _ = _
  rw [intsD_map, ← lex_dec]
  rfl
theorem find_filter {α β : Type} (p : α → Bool) (F : α → β) : ∀ xs : List α, (xs.filter p).map F = [] ∧ xs.find? p = none ∨ ∃ x r, (xs.filter p).map F = F x :: r ∧ xs.find? p = some x
  | [] => .inl ⟨rfl, rfl⟩
  | x :: r => by
    rw [List.filter_cons, List.find?_cons]
    cases h : p x with
    | true => exact .inr ⟨x, _, rfl, rfl⟩
    | false => simpa using find_filter p F r
structure BaseLW (tab : Str → Option Df) : Prop where
  row : tab (Str.ofString "_law_row") = some d_law_row
  wish : tab (Str.ofString "_law_wish") = some d_law_wish
theorem disp_move {f : Str → List PyData → Res PyData} (m : String) (hm : m = "on" ∨ m = "back") (a b : DE) (x y : Int) (δ : Ev) (ex : DE) (ha : ev g f a δ = .ok (.int x)) (hb : ev g f b δ = .ok (.int y)) (he : ev g f ex δ = .ok (.str (Str.ofString m))) :
    ev g f (.disp [(Str.ofString "on"), (Str.ofString "back")] (.cons a (.cons b .nil)) ex) δ = .ok (.int (if m = "on" then x else y)) := by
  simp only [Q.var, Q.int, Q.neg, Q.str, Q.bl, Q.non, Q.glob, Q.tup, Q.lst, Q.bin, Q.cmp, Q.chain, Q.inG, Q.nt, Q.bop, Q.ite, Q.ix, Q.sl, Q.tl0, Q.rev, Q.disp, Q.call, Q.bi1, Q.mn2, Q.isi, Q.cnt, Q.tupRg, Q.lstRg, Q.lenO, Q.ixO, Q.nil, Q.cons, Q.b1, Q.and2, Q.or2, Q.no, Q.some_, Q.seq, Q.rng1, Q.rng2, Q.enm, bind_ok, bind_err, rofO_some, Option.map_some, truth, List.getElem?_cons_succ, List.getElem?_cons_zero, len_le0, len_le1, len_le2, len_le3, len_le4, len_le5, limN0, limN1, limN2, limN3, limN4, limN5, if_true, if_false, entry, List.map_cons, List.map_nil, List.replicate, WT, lcT, setT1, setT2, setT3, wipe1, wipe2, wipe3, Q.cno, Q.csome, List.set_cons_zero, List.set_cons_succ, cmpE, cmpN, cmpLtI, cmpLeI, cmpGtI, cmpGeI, cmpInL, cmpInT, cmpNiL, cmpNiT, addI, subI, lenL, lenT, tupL, lstT, lstL, isiLL, isiTT, isiBB, isiII, isiSS, ha, hb, he]
  have nd : [(Str.ofString "on"), (Str.ofString "back")].length = [PyData.int x, PyData.int y].length ∧ [(Str.ofString "on"), (Str.ofString "back")].Nodup := by
    refine ⟨rfl, ?_⟩
    rw [List.nodup_cons]
    refine ⟨?_, by simp⟩
    rw [List.mem_singleton, str_inj]
    decide
  rw [if_pos nd]
  rcases hm with rfl | rfl
  · simp [List.lookup]
    rfl
  · have z : (Str.ofString "back" == Str.ofString "on") = false := by rw [str_beq]; decide
    simp [List.lookup, z]
    rfl
theorem eq_strs0 (a : List String) : eqD (.list (a.map fun s => .str (Str.ofString s))) (.list []) = some (decide (a = [])) := eq_list (α := String) a []
theorem law_wish_ok (B : BaseLW tab) (hk : 2 ≤ k) {n : Nat} {s : String} {rs : List (List Int × String)} (h : IsB n s rs) (st : List Int) (hst : st.length ≤ 1000) (p : Int) :
    run g tab k (Str.ofString "_law_wish") [bookT n s rs, iT st, .int p] = .ok (.list ((wishL n s rs st p).map .int)) := by
  have hn : 0 < n := by have := h.lo; omega
  have hn2 : n ≤ 1000 := by have := h.hi; omega
  refine run_W B.wish (by omega) rfl ?_
  have e1 : run g tab (k - 1) (Str.ofString "_law_row") [.int n, .str (Str.ofString s), iT st, .int p, .int 1] = .ok (iT (seenL n s st p 1)) := levR 1 (fun k => law_row_ok B.row n hn hn2 s h.si st hst p 1) (by omega)
  have e2 : run g tab (k - 1) (Str.ofString "_law_row") [.int n, .str (Str.ofString s), iT st, .int p, .int (-1)] = .ok (iT (turned (seenL n s st p 1))) := by
    rw [← seen_back n hn]
    exact levR 1 (fun k => law_row_ok B.row n hn hn2 s h.si st hst p (-1)) (by omega)
  have hv : (if turned (seenL n s st p 1) < seenL n s st p 1 then turned (seenL n s st p 1) else seenL n s st p 1) = viewL n s st p := rfl
  have key : ∀ a b c d e1 e2 : Option Sl, ev g (run g tab (k - 1)) c_law_wish_0 [a, b, c, some (.sh (iT (seenL n s st p 1))), some (.sh (iT (turned (seenL n s st p 1)))), d, e1, some (.sh (.int n)), e2, some (.sh (rulesT rs)), none, none]
      = .ok (.list (((rs.filter fun r => decide (r.1 = viewL n s st p)).map (·.2)).map fun s => .str (Str.ofString s))) := by
    intro a b c d e1 e2
    refine lc_filter (ea := pyRule) _ _ rs (by simp only [Q.var, Q.int, Q.neg, Q.str, Q.bl, Q.non, Q.glob, Q.tup, Q.lst, Q.bin, Q.cmp, Q.chain, Q.inG, Q.nt, Q.bop, Q.ite, Q.ix, Q.sl, Q.tl0, Q.rev, Q.disp, Q.call, Q.bi1, Q.mn2, Q.isi, Q.cnt, Q.tupRg, Q.lstRg, Q.lenO, Q.ixO, Q.nil, Q.cons, Q.b1, Q.and2, Q.or2, Q.no, Q.some_, Q.seq, Q.rng1, Q.rng2, Q.enm, bind_ok, bind_err, rofO_some, Option.map_some, truth, List.getElem?_cons_succ, List.getElem?_cons_zero, len_le0, len_le1, len_le2, len_le3, len_le4, len_le5, limN0, limN1, limN2, limN3, limN4, limN5, if_true, if_false, entry, List.map_cons, List.map_nil, List.replicate, WT, lcT, setT1, setT2, setT3, wipe1, wipe2, wipe3, Q.cno, Q.csome, List.set_cons_zero, List.set_cons_succ, cmpE, cmpN, cmpLtI, cmpLeI, cmpGtI, cmpGeI, cmpInL, cmpInT, cmpNiL, cmpNiT, addI, subI, lenL, lenT, tupL, lstT, lstL, isiLL, isiTT, isiBB, isiII, isiSS]) (lim_of (by have := h.ru.len; omega)) fun r hr => ?_
    simp only [Q.var, Q.int, Q.neg, Q.str, Q.bl, Q.non, Q.glob, Q.tup, Q.lst, Q.bin, Q.cmp, Q.chain, Q.inG, Q.nt, Q.bop, Q.ite, Q.ix, Q.sl, Q.tl0, Q.rev, Q.disp, Q.call, Q.bi1, Q.mn2, Q.isi, Q.cnt, Q.tupRg, Q.lstRg, Q.lenO, Q.ixO, Q.nil, Q.cons, Q.b1, Q.and2, Q.or2, Q.no, Q.some_, Q.seq, Q.rng1, Q.rng2, Q.enm, bind_ok, bind_err, rofO_some, Option.map_some, truth, List.getElem?_cons_succ, List.getElem?_cons_zero, len_le0, len_le1, len_le2, len_le3, len_le4, len_le5, limN0, limN1, limN2, limN3, limN4, limN5, if_true, if_false, entry, List.map_cons, List.map_nil, List.replicate, WT, lcT, setT1, setT2, setT3, wipe1, wipe2, wipe3, Q.cno, Q.csome, List.set_cons_zero, List.set_cons_succ, cmpE, cmpN, cmpLtI, cmpLeI, cmpGtI, cmpGeI, cmpInL, cmpInT, cmpNiL, cmpNiT, addI, subI, lenL, lenT, tupL, lstT, lstL, isiLL, isiTT, isiBB, isiII, isiSS, rule_ix0, rule_ix1, min_row, hv, eq_row]
  have last : ∀ (ws : List Int) (a b c d e1 e2 e3 e4 : Option Sl), ws.length ≤ 1000 → ev g (run g tab (k - 1)) c_law_wish_1 [a, b, some (.sh (.int p)), c, d, e1, some (.sh (.list (ws.map .int))), some (.sh (.int n)), e2, e3, e4, none]
      = .ok (.list ((ws.map fun w => (p + w) % (n : Int)).map .int)) := by
    intro ws a b c d e1 e2 e3 e4 hw
    exact lc_map (ea := .int) (eb := .int) (fun w => (p + w) % (n : Int)) ws (by simp only [Q.var, Q.int, Q.neg, Q.str, Q.bl, Q.non, Q.glob, Q.tup, Q.lst, Q.bin, Q.cmp, Q.chain, Q.inG, Q.nt, Q.bop, Q.ite, Q.ix, Q.sl, Q.tl0, Q.rev, Q.disp, Q.call, Q.bi1, Q.mn2, Q.isi, Q.cnt, Q.tupRg, Q.lstRg, Q.lenO, Q.ixO, Q.nil, Q.cons, Q.b1, Q.and2, Q.or2, Q.no, Q.some_, Q.seq, Q.rng1, Q.rng2, Q.enm, bind_ok, bind_err, rofO_some, Option.map_some, truth, List.getElem?_cons_succ, List.getElem?_cons_zero, len_le0, len_le1, len_le2, len_le3, len_le4, len_le5, limN0, limN1, limN2, limN3, limN4, limN5, if_true, if_false, entry, List.map_cons, List.map_nil, List.replicate, WT, lcT, setT1, setT2, setT3, wipe1, wipe2, wipe3, Q.cno, Q.csome, List.set_cons_zero, List.set_cons_succ, cmpE, cmpN, cmpLtI, cmpLeI, cmpGtI, cmpGeI, cmpInL, cmpInT, cmpNiL, cmpNiT, addI, subI, lenL, lenT, tupL, lstT, lstL, isiLL, isiTT, isiBB, isiII, isiSS]) (lim_of (by omega)) fun w hw => by simp only [Q.var, Q.int, Q.neg, Q.str, Q.bl, Q.non, Q.glob, Q.tup, Q.lst, Q.bin, Q.cmp, Q.chain, Q.inG, Q.nt, Q.bop, Q.ite, Q.ix, Q.sl, Q.tl0, Q.rev, Q.disp, Q.call, Q.bi1, Q.mn2, Q.isi, Q.cnt, Q.tupRg, Q.lstRg, Q.lenO, Q.ixO, Q.nil, Q.cons, Q.b1, Q.and2, Q.or2, Q.no, Q.some_, Q.seq, Q.rng1, Q.rng2, Q.enm, bind_ok, bind_err, rofO_some, Option.map_some, truth, List.getElem?_cons_succ, List.getElem?_cons_zero, len_le0, len_le1, len_le2, len_le3, len_le4, len_le5, limN0, limN1, limN2, limN3, limN4, limN5, if_true, if_false, entry, List.map_cons, List.map_nil, List.replicate, WT, lcT, setT1, setT2, setT3, wipe1, wipe2, wipe3, Q.cno, Q.csome, List.set_cons_zero, List.set_cons_succ, cmpE, cmpN, cmpLtI, cmpLeI, cmpGtI, cmpGeI, cmpInL, cmpInT, cmpNiL, cmpNiT, addI, subI, lenL, lenT, tupL, lstT, lstL, isiLL, isiTT, isiBB, isiII, isiSS, add_int, mod_n hn]
  have sort1 : ∀ x : Int, sortL [x] = [x] := fun x => sortL_of_sorted (List.pairwise_singleton _ _)
  generalize hr : seenL n s st p 1 = r at *
  have wi : wishL n s rs st p = if moveOf rs (viewL n s st p) = "stay" then [p] else
      if viewL n s st p = turned (viewL n s st p) then sortL [(p + 1) % (n : Int), (p - 1) % (n : Int)] else
      if moveOf rs (viewL n s st p) = "back" then [(p + (0 - if r = viewL n s st p then 1 else -1)) % (n : Int)] else [(p + if r = viewL n s st p then 1 else -1) % (n : Int)] := by
    rw [← hr]
    rfl
  rw [wi]
  rcases find_filter (fun r : List Int × String => decide (r.1 = viewL n s st p)) (fun r : List Int × String => r.2) rs with ⟨m1, m2⟩ | ⟨x, rest, m1, m2⟩
  · have mv : moveOf rs (viewL n s st p) = "stay" := by unfold moveOf; rw [m2]
    have q := eq_strs0 []
    rw [List.map_nil] at q
    rw [m1] at key
    simp only [List.map_nil] at key
    simp only [d_law_wish, Q.var, Q.int, Q.neg, Q.str, Q.bl, Q.non, Q.glob, Q.tup, Q.lst, Q.bin, Q.cmp, Q.chain, Q.inG, Q.nt, Q.bop, Q.ite, Q.ix, Q.sl, Q.tl0, Q.rev, Q.disp, Q.call, Q.bi1, Q.mn2, Q.isi, Q.cnt, Q.tupRg, Q.lstRg, Q.lenO, Q.ixO, Q.nil, Q.cons, Q.b1, Q.and2, Q.or2, Q.no, Q.some_, Q.seq, Q.rng1, Q.rng2, Q.enm, bind_ok, bind_err, rofO_some, Option.map_some, truth, List.getElem?_cons_succ, List.getElem?_cons_zero, len_le0, len_le1, len_le2, len_le3, len_le4, len_le5, limN0, limN1, limN2, limN3, limN4, limN5, if_true, if_false, entry, List.map_cons, List.map_nil, List.replicate, WT, lcT, setT1, setT2, setT3, wipe1, wipe2, wipe3, Q.cno, Q.csome, List.set_cons_zero, List.set_cons_succ, cmpE, cmpN, cmpLtI, cmpLeI, cmpGtI, cmpGeI, cmpInL, cmpInT, cmpNiL, cmpNiT, addI, subI, lenL, lenT, tupL, lstT, lstL, isiLL, isiTT, isiBB, isiII, isiSS, W_nil, W_set, W_setT, W_newL, W_newD, W_app, W_ext, W_dput, W_expr, W_ret, W_retN, W_raise, W_ite, W_frz, setK_ok, setK_err, oevK_some, setTK_ok, setTK_err, ifK_true, newLK_ok, appK_is, appK2_ok, appK2_err, extK_is, extK2_ok, extK2_err, dputK_ok, dputK_err, dputK2_is, dputK3_ok, exprK_ok, exprK_err, retK_ok, retK_err, iteK_ok, iteK_err, tstK_true, tstK_false, tstK_not, tstK_dec, frzK_is, slot, List.cons_append, List.nil_append, retO, bookT, e1, e2, key, q, mv]
  · have hx : x ∈ rs := List.mem_of_find?_eq_some m2
    have mw := h.ru.way x hx
    have mv : moveOf rs (viewL n s st p) = x.2 := by unfold moveOf; rw [m2]
    have q := eq_strs0 (x.2 :: rest)
    rw [List.map_cons] at q
    rw [m1] at key
    simp only [List.map_cons] at key
    have ns : ¬ x.2 = "stay" := by rcases mw with z | z <;> rw [z] <;> decide
    have ix0 : ixD (.list (.str (Str.ofString x.2) :: rest.map fun s => .str (Str.ofString s))) (.int 0) = some (.str (Str.ofString x.2)) := L2.atI_nat (j := 0) rfl
    have dd : ∀ (u v : Int) (a b c d e1 e2 e3 e4 e5 e6 : Option Sl) (ea eb : DE) , (∀ δ, ev g (run g tab (k - 1)) ea δ = .ok (.int u)) → (∀ δ, ev g (run g tab (k - 1)) eb δ = .ok (.int v)) → ev g (run g tab (k - 1)) (.disp [(Str.ofString "on"), (Str.ofString "back")] (.cons ea (.cons eb .nil)) (.ix (.var 5) (.int 0))) [a, b, c, d, e1, some (.sh (.list (.str (Str.ofString x.2) :: rest.map fun s => .str (Str.ofString s)))), e2, e3, e4, e5, e6, none] = .ok (.int (if x.2 = "on" then u else v)) := by
      intro u v a b c d e1 e2 e3 e4 e5 e6 ea eb ha hb
      exact disp_move x.2 mw ea eb u v _ _ (ha _) (hb _) (by simp only [Q.var, Q.int, Q.neg, Q.str, Q.bl, Q.non, Q.glob, Q.tup, Q.lst, Q.bin, Q.cmp, Q.chain, Q.inG, Q.nt, Q.bop, Q.ite, Q.ix, Q.sl, Q.tl0, Q.rev, Q.disp, Q.call, Q.bi1, Q.mn2, Q.isi, Q.cnt, Q.tupRg, Q.lstRg, Q.lenO, Q.ixO, Q.nil, Q.cons, Q.b1, Q.and2, Q.or2, Q.no, Q.some_, Q.seq, Q.rng1, Q.rng2, Q.enm, bind_ok, bind_err, rofO_some, Option.map_some, truth, List.getElem?_cons_succ, List.getElem?_cons_zero, len_le0, len_le1, len_le2, len_le3, len_le4, len_le5, limN0, limN1, limN2, limN3, limN4, limN5, if_true, if_false, entry, List.map_cons, List.map_nil, List.replicate, WT, lcT, setT1, setT2, setT3, wipe1, wipe2, wipe3, Q.cno, Q.csome, List.set_cons_zero, List.set_cons_succ, cmpE, cmpN, cmpLtI, cmpLeI, cmpGtI, cmpGeI, cmpInL, cmpInT, cmpNiL, cmpNiT, addI, subI, lenL, lenT, tupL, lstT, lstL, isiLL, isiTT, isiBB, isiII, isiSS, ix0])
    have dd1 := fun a b c d e1 e2 e3 e4 e5 e6 => dd 1 (-1) a b c d e1 e2 e3 e4 e5 e6 (.int 1) (.neg 1) (fun _ => rfl) (fun _ => rfl)
    have dd2 := fun a b c d e1 e2 e3 e4 e5 e6 => dd (-1) 1 a b c d e1 e2 e3 e4 e5 e6 (.neg 1) (.int 1) (fun _ => rfl) (fun _ => rfl)
    have l1 := fun w a b c d e1 e2 e3 e4 => last [w] a b c d e1 e2 e3 e4 (by simp)
    have l2 := fun a b c d e1 e2 e3 e4 => last [1, -1] a b c d e1 e2 e3 e4 (by simp)
    simp only [List.map_cons, List.map_nil] at l1 l2
    have so1 : ∀ x, bi1D .sorted (.list [.int x]) = some (.list [.int x]) := fun x => by
      have := sorted_list (α := Int) [x] (fun _ _ => rfl) lim1
      rw [sort1] at this
      exact this
    rw [mv, if_neg ns]
    rcases row_tri r (turned r) with z | z | z
    · have z2 : ¬ turned r < r := List.lt_asymm z
      have vv : viewL n s st p = r := by rw [← hv, if_neg z2]
      have z3 : ¬ r = turned r := fun y => by rw [← y] at z; exact List.lt_irrefl _ z
      simp only [vv, if_true]
      rw [if_neg z3]
      simp only [d_law_wish, Q.var, Q.int, Q.neg, Q.str, Q.bl, Q.non, Q.glob, Q.tup, Q.lst, Q.bin, Q.cmp, Q.chain, Q.inG, Q.nt, Q.bop, Q.ite, Q.ix, Q.sl, Q.tl0, Q.rev, Q.disp, Q.call, Q.bi1, Q.mn2, Q.isi, Q.cnt, Q.tupRg, Q.lstRg, Q.lenO, Q.ixO, Q.nil, Q.cons, Q.b1, Q.and2, Q.or2, Q.no, Q.some_, Q.seq, Q.rng1, Q.rng2, Q.enm, bind_ok, bind_err, rofO_some, Option.map_some, truth, List.getElem?_cons_succ, List.getElem?_cons_zero, len_le0, len_le1, len_le2, len_le3, len_le4, len_le5, limN0, limN1, limN2, limN3, limN4, limN5, if_true, if_false, entry, List.map_cons, List.map_nil, List.replicate, WT, lcT, setT1, setT2, setT3, wipe1, wipe2, wipe3, Q.cno, Q.csome, List.set_cons_zero, List.set_cons_succ, cmpE, cmpN, cmpLtI, cmpLeI, cmpGtI, cmpGeI, cmpInL, cmpInT, cmpNiL, cmpNiT, addI, subI, lenL, lenT, tupL, lstT, lstL, isiLL, isiTT, isiBB, isiII, isiSS, W_nil, W_set, W_setT, W_newL, W_newD, W_app, W_ext, W_dput, W_expr, W_ret, W_retN, W_raise, W_ite, W_frz, setK_ok, setK_err, oevK_some, setTK_ok, setTK_err, ifK_true, newLK_ok, appK_is, appK2_ok, appK2_err, extK_is, extK2_ok, extK2_err, dputK_ok, dputK_err, dputK2_is, dputK3_ok, exprK_ok, exprK_err, retK_ok, retK_err, iteK_ok, iteK_err, tstK_true, tstK_false, tstK_not, tstK_dec, frzK_is, slot, List.cons_append, List.nil_append, retO, bookT, e1, e2, key, q, lt_rows, z, z2, reduceCtorEq, dd1, l1, so1]
      rcases mw with w | w
      · simp [w]
      · simp [w]
    · have z2 : ¬ r < r := List.lt_irrefl _
      rw [← z] at hv
      have vv : viewL n s st p = r := by rw [← hv, if_neg z2]
      simp only [vv]
      rw [← z, if_pos rfl]
      simp only [← z] at *
      simp only [d_law_wish, Q.var, Q.int, Q.neg, Q.str, Q.bl, Q.non, Q.glob, Q.tup, Q.lst, Q.bin, Q.cmp, Q.chain, Q.inG, Q.nt, Q.bop, Q.ite, Q.ix, Q.sl, Q.tl0, Q.rev, Q.disp, Q.call, Q.bi1, Q.mn2, Q.isi, Q.cnt, Q.tupRg, Q.lstRg, Q.lenO, Q.ixO, Q.nil, Q.cons, Q.b1, Q.and2, Q.or2, Q.no, Q.some_, Q.seq, Q.rng1, Q.rng2, Q.enm, bind_ok, bind_err, rofO_some, Option.map_some, truth, List.getElem?_cons_succ, List.getElem?_cons_zero, len_le0, len_le1, len_le2, len_le3, len_le4, len_le5, limN0, limN1, limN2, limN3, limN4, limN5, if_true, if_false, entry, List.map_cons, List.map_nil, List.replicate, WT, lcT, setT1, setT2, setT3, wipe1, wipe2, wipe3, Q.cno, Q.csome, List.set_cons_zero, List.set_cons_succ, cmpE, cmpN, cmpLtI, cmpLeI, cmpGtI, cmpGeI, cmpInL, cmpInT, cmpNiL, cmpNiT, addI, subI, lenL, lenT, tupL, lstT, lstL, isiLL, isiTT, isiBB, isiII, isiSS, W_nil, W_set, W_setT, W_newL, W_newD, W_app, W_ext, W_dput, W_expr, W_ret, W_retN, W_raise, W_ite, W_frz, setK_ok, setK_err, oevK_some, setTK_ok, setTK_err, ifK_true, newLK_ok, appK_is, appK2_ok, appK2_err, extK_is, extK2_ok, extK2_err, dputK_ok, dputK_err, dputK2_is, dputK3_ok, exprK_ok, exprK_err, retK_ok, retK_err, iteK_ok, iteK_err, tstK_true, tstK_false, tstK_not, tstK_dec, frzK_is, slot, List.cons_append, List.nil_append, retO, bookT, e1, e2, key, q, lt_rows, z2, reduceCtorEq, l2, sorted_two]
      simp [Int.sub_eq_add_neg]
    · have z2 : ¬ r < turned r := List.lt_asymm z
      have vv : viewL n s st p = turned r := by rw [← hv, if_pos z]
      have z3 : ¬ turned r = r := fun y => by rw [y] at z; exact List.lt_irrefl _ z
      have z4 : ¬ r = turned r := fun y => z3 y.symm
      simp only [vv, turned_turned]
      rw [if_neg z3]
      simp only [d_law_wish, Q.var, Q.int, Q.neg, Q.str, Q.bl, Q.non, Q.glob, Q.tup, Q.lst, Q.bin, Q.cmp, Q.chain, Q.inG, Q.nt, Q.bop, Q.ite, Q.ix, Q.sl, Q.tl0, Q.rev, Q.disp, Q.call, Q.bi1, Q.mn2, Q.isi, Q.cnt, Q.tupRg, Q.lstRg, Q.lenO, Q.ixO, Q.nil, Q.cons, Q.b1, Q.and2, Q.or2, Q.no, Q.some_, Q.seq, Q.rng1, Q.rng2, Q.enm, bind_ok, bind_err, rofO_some, Option.map_some, truth, List.getElem?_cons_succ, List.getElem?_cons_zero, len_le0, len_le1, len_le2, len_le3, len_le4, len_le5, limN0, limN1, limN2, limN3, limN4, limN5, if_true, if_false, entry, List.map_cons, List.map_nil, List.replicate, WT, lcT, setT1, setT2, setT3, wipe1, wipe2, wipe3, Q.cno, Q.csome, List.set_cons_zero, List.set_cons_succ, cmpE, cmpN, cmpLtI, cmpLeI, cmpGtI, cmpGeI, cmpInL, cmpInT, cmpNiL, cmpNiT, addI, subI, lenL, lenT, tupL, lstT, lstL, isiLL, isiTT, isiBB, isiII, isiSS, W_nil, W_set, W_setT, W_newL, W_newD, W_app, W_ext, W_dput, W_expr, W_ret, W_retN, W_raise, W_ite, W_frz, setK_ok, setK_err, oevK_some, setTK_ok, setTK_err, ifK_true, newLK_ok, appK_is, appK2_ok, appK2_err, extK_is, extK2_ok, extK2_err, dputK_ok, dputK_err, dputK2_is, dputK3_ok, exprK_ok, exprK_err, retK_ok, retK_err, iteK_ok, iteK_err, tstK_true, tstK_false, tstK_not, tstK_dec, frzK_is, slot, List.cons_append, List.nil_append, retO, bookT, e1, e2, key, q, lt_rows, z, z2, reduceCtorEq, dd2, l1, so1]
      rcases mw with w | w
      · simp [w, z4]
      · simp [w, z4]
end
end Rh

set_option Elab.async false
set_option linter.all false
set_option maxRecDepth 100000
set_option maxHeartbeats 2000000
/-! Law k04. -/
namespace Rh
open PySem (PyData Str)
open Enc (e)
open Ord' (lt ok)
open Cd
theorem shaped_bool (b : Bool) : PySem.SeqAt.shaped (.bool b) = true := by simp [PySem.SeqAt.shaped, PyData.canLay0, PyData.depth]
theorem eq_bool (a b : Bool) : eqD (.bool a) (.bool b) = some (decide (a = b)) := by
  unfold eqD
  rw [shaped_bool, shaped_bool]
  cases a <;> cases b <;> simp [PyData.eqv]
section
variable {g : Str → Option PyData} {tab : Str → Option Df} {k : Nat}
/-- what a law draws at first: a book, a stand -/
structure Drawn (g : Str → Option PyData) (tab : Str → Option Df) (ns : List Int) (a1 a2 : Int) (n m : Nat) (s : String) (rs : List (List Int × String)) (st : List Int) : Prop where
  b : IsB n s rs
  ss : IsS n st
  len : st.length = m
  n3 : 3 ≤ n
  n7 : n ≤ 7
  m1 : 1 ≤ m
  m4 : m ≤ 4
  mem : (n, m) ∈ pairs0
  book : ∀ {k}, 4 ≤ k → run g tab k (Str.ofString "_law_book") [scrD ns, .int a1] = .ok (bookT n s rs)
  many : ∀ {k}, 2 ≤ k → run g tab k (Str.ofString "_law_many") [scrD ns, .int a1] = .ok (.tuple [.int n, .int m])
  stand : ∀ {k}, 2 ≤ k → run g tab k (Str.ofString "_law_stand") [scrD ns, .int a2, .int n, .int m] = .ok (iT st)
theorem draws (BL : BaseL tab) {ns : List Int} (hl : ns.length ≤ 63) (hf : Few ns) (a1 a2 : Nat) {i1 i2 : Int} (z1 : i1 = a1) (z2 : i2 = a2) : ∃ n m s rs st, Drawn g tab ns i1 i2 n m s rs st := by
  subst z1 z2
  obtain ⟨r1, r2, r3, r4⟩ := ring_ok ns a1
  refine ⟨(ring ns a1).1, (ring ns a1).2, sightOf ns a1, rulesOf ns a1, standOf ns a2 (ring ns a1).1 (ring ns a1).2, book_is ns a1, stand_is ns a2 _ _ (by omega) r3 r4, ?_, r1, r2, r3, r4, List.mem_of_getElem? (ring_get ns a1), fun hk => levR 4 (fun k => book_ok BL.toBaseL0 hl hf a1) hk, fun hk => levR 2 (fun k => many_ok BL.toBaseL0 ns hl a1) hk, fun hk => levR 2 (fun k => stand_ok BL hf a2 _ _ (by omega) r4) hk⟩
  unfold standOf
  rw [List.length_map, List.length_range]
theorem cell_ok' (BL : BaseL0 tab) (hk : 1 ≤ k) (ns : List Int) (i : Nat) {z : Int} (hz : z = i) : run g tab k (Str.ofString "_law_cell") [scrD ns, .int z] = .ok (.int (cell ns i)) := by
  subst hz
  exact levR 1 (fun k => cell_ok BL.cell ns i) hk
theorem mod_nat (c : Int) {m : Nat} (hm : 0 < m) : ∃ j : Nat, c % (m : Int) = j ∧ j < m := by
  have a1 := Int.emod_nonneg c (show (m : Int) ≠ 0 by omega)
  have a2 := Int.emod_lt_of_pos c (show (0 : Int) < m by omega)
  exact ⟨(c % (m : Int)).toNat, by omega, by omega⟩
structure BaseLS (tab : Str → Option Df) : Prop extends BaseLW tab where
  still : tab (Str.ofString "_law_still") = some d_law_still
theorem law_still_ok (B : BaseLS tab) (hk : 3 ≤ k) {n : Nat} {s : String} {rs : List (List Int × String)} (h : IsB n s rs) (st : List Int) (hst : st.length ≤ 1000) :
    run g tab k (Str.ofString "_law_still") [bookT n s rs, iT st] = .ok (.bool (stillL n s rs st)) := by
  refine run_W B.still (by omega) rfl ?_
  have e1 : ∀ p, run g tab (k - 1) (Str.ofString "_law_wish") [bookT n s rs, iT st, .int p] = .ok (.list ((wishL n s rs st p).map .int)) := fun p => law_wish_ok B.toBaseLW (by omega) h st hst p
  have key : ev g (run g tab (k - 1)) c_law_still_0 [some (.sh (bookT n s rs)), some (.sh (iT st)), none] = .ok (.list (((st.filter fun p => !decide (wishL n s rs st p = [p])).map id).map .int)) := by
    refine lc_filter (ea := .int) _ _ st (by simp only [Q.var, Q.int, Q.neg, Q.str, Q.bl, Q.non, Q.glob, Q.tup, Q.lst, Q.bin, Q.cmp, Q.chain, Q.inG, Q.nt, Q.bop, Q.ite, Q.ix, Q.sl, Q.tl0, Q.rev, Q.disp, Q.call, Q.bi1, Q.mn2, Q.isi, Q.cnt, Q.tupRg, Q.lstRg, Q.lenO, Q.ixO, Q.nil, Q.cons, Q.b1, Q.and2, Q.or2, Q.no, Q.some_, Q.seq, Q.rng1, Q.rng2, Q.enm, bind_ok, bind_err, rofO_some, Option.map_some, truth, List.getElem?_cons_succ, List.getElem?_cons_zero, len_le0, len_le1, len_le2, len_le3, len_le4, len_le5, limN0, limN1, limN2, limN3, limN4, limN5, if_true, if_false, entry, List.map_cons, List.map_nil, List.replicate, WT, lcT, setT1, setT2, setT3, wipe1, wipe2, wipe3, Q.cno, Q.csome, List.set_cons_zero, List.set_cons_succ, cmpE, cmpN, cmpLtI, cmpLeI, cmpGtI, cmpGeI, cmpInL, cmpInT, cmpNiL, cmpNiT, addI, subI, lenL, lenT, tupL, lstT, lstL, isiLL, isiTT, isiBB, isiII, isiSS]) (lim_of (by omega)) fun p hp => ?_
    have := eq_ints (wishL n s rs st p) [p]
    rw [List.map_cons, List.map_nil] at this
    simp only [Q.var, Q.int, Q.neg, Q.str, Q.bl, Q.non, Q.glob, Q.tup, Q.lst, Q.bin, Q.cmp, Q.chain, Q.inG, Q.nt, Q.bop, Q.ite, Q.ix, Q.sl, Q.tl0, Q.rev, Q.disp, Q.call, Q.bi1, Q.mn2, Q.isi, Q.cnt, Q.tupRg, Q.lstRg, Q.lenO, Q.ixO, Q.nil, Q.cons, Q.b1, Q.and2, Q.or2, Q.no, Q.some_, Q.seq, Q.rng1, Q.rng2, Q.enm, bind_ok, bind_err, rofO_some, Option.map_some, truth, List.getElem?_cons_succ, List.getElem?_cons_zero, len_le0, len_le1, len_le2, len_le3, len_le4, len_le5, limN0, limN1, limN2, limN3, limN4, limN5, if_true, if_false, entry, List.map_cons, List.map_nil, List.replicate, WT, lcT, setT1, setT2, setT3, wipe1, wipe2, wipe3, Q.cno, Q.csome, List.set_cons_zero, List.set_cons_succ, cmpE, cmpN, cmpLtI, cmpLeI, cmpGtI, cmpGeI, cmpInL, cmpInT, cmpNiL, cmpNiT, addI, subI, lenL, lenT, tupL, lstT, lstL, isiLL, isiTT, isiBB, isiII, isiSS, e1, this, id]
  have q := eq_ints ((st.filter fun p => !decide (wishL n s rs st p = [p])).map id) []
  rw [List.map_nil] at q
  simp only [d_law_still, Q.var, Q.int, Q.neg, Q.str, Q.bl, Q.non, Q.glob, Q.tup, Q.lst, Q.bin, Q.cmp, Q.chain, Q.inG, Q.nt, Q.bop, Q.ite, Q.ix, Q.sl, Q.tl0, Q.rev, Q.disp, Q.call, Q.bi1, Q.mn2, Q.isi, Q.cnt, Q.tupRg, Q.lstRg, Q.lenO, Q.ixO, Q.nil, Q.cons, Q.b1, Q.and2, Q.or2, Q.no, Q.some_, Q.seq, Q.rng1, Q.rng2, Q.enm, bind_ok, bind_err, rofO_some, Option.map_some, truth, List.getElem?_cons_succ, List.getElem?_cons_zero, len_le0, len_le1, len_le2, len_le3, len_le4, len_le5, limN0, limN1, limN2, limN3, limN4, limN5, if_true, if_false, entry, List.map_cons, List.map_nil, List.replicate, WT, lcT, setT1, setT2, setT3, wipe1, wipe2, wipe3, Q.cno, Q.csome, List.set_cons_zero, List.set_cons_succ, cmpE, cmpN, cmpLtI, cmpLeI, cmpGtI, cmpGeI, cmpInL, cmpInT, cmpNiL, cmpNiT, addI, subI, lenL, lenT, tupL, lstT, lstL, isiLL, isiTT, isiBB, isiII, isiSS, W_nil, W_set, W_setT, W_newL, W_newD, W_app, W_ext, W_dput, W_expr, W_ret, W_retN, W_raise, W_ite, W_frz, setK_ok, setK_err, oevK_some, setTK_ok, setTK_err, ifK_true, newLK_ok, appK_is, appK2_ok, appK2_err, extK_is, extK2_ok, extK2_err, dputK_ok, dputK_err, dputK2_is, dputK3_ok, exprK_ok, exprK_err, retK_ok, retK_err, iteK_ok, iteK_err, tstK_true, tstK_false, tstK_not, tstK_dec, frzK_is, slot, List.cons_append, List.nil_append, retO, key, q]
  unfold stillL
  rw [← filter_nil_all, List.map_id]
  congr 2
  rw [Bool.eq_iff_iff, decide_eq_true_eq, List.isEmpty_iff]
theorem law_k04 (B : BaseK4 g tab) (BL : BaseL tab) (BS : BaseLS tab) (hlaw : tab (Str.ofString "law") = some d_law_k04) {ns : List Int} (hl : ns.length ≤ 63) (hf : Few ns) (hk : 10 ≤ k) : run g tab k (Str.ofString "law") [scrD ns] = .ok (.bool true) := by
  refine run_W hlaw (by omega) rfl ?_
  obtain ⟨n, m, s, rs, st, D⟩ := draws (g := g) BL hl hf 2 4 (i1 := 2) (i2 := 4) rfl rfl
  have hn : 0 < n := by have := D.n3; omega
  have hm : 0 < m := by have := D.m1; omega
  obtain ⟨j, hj, hjm⟩ := mod_nat (cell ns 0) hm
  obtain ⟨p, hp⟩ : ∃ p, st[j]? = some p := ⟨st[j]'(by have := D.len; omega), List.getElem?_eq_getElem (by have := D.len; omega)⟩
  have hst : st.length ≤ 1000 := by have := D.ss.hi; omega
  have e1 := D.book (k := k - 1) (by omega)
  have e2 := D.many (k := k - 1) (by omega)
  have e3 := D.stand (k := k - 1) (by omega)
  have e4 := cell_ok' (g := g) (k := k - 1) BL.toBaseL0 (by omega) ns 0 (z := 0) rfl
  have e5 := wishes_ok (g := g) (k := k - 1) B.toBaseW B.view B.wishes (by omega) D.b D.ss hp
  have e6 := law_wish_ok (g := g) (k := k - 1) BS.toBaseLW (by omega) D.b st hst p
  have e7 := still_ok (g := g) (k := k - 1) B.toBaseS B.still (by omega) D.b D.ss
  have e8 := law_still_ok (g := g) (k := k - 1) BS (by omega) D.b st hst
  simp only [d_law_k04, Q.var, Q.int, Q.neg, Q.str, Q.bl, Q.non, Q.glob, Q.tup, Q.lst, Q.bin, Q.cmp, Q.chain, Q.inG, Q.nt, Q.bop, Q.ite, Q.ix, Q.sl, Q.tl0, Q.rev, Q.disp, Q.call, Q.bi1, Q.mn2, Q.isi, Q.cnt, Q.tupRg, Q.lstRg, Q.lenO, Q.ixO, Q.nil, Q.cons, Q.b1, Q.and2, Q.or2, Q.no, Q.some_, Q.seq, Q.rng1, Q.rng2, Q.enm, bind_ok, bind_err, rofO_some, Option.map_some, truth, List.getElem?_cons_succ, List.getElem?_cons_zero, len_le0, len_le1, len_le2, len_le3, len_le4, len_le5, limN0, limN1, limN2, limN3, limN4, limN5, if_true, if_false, entry, List.map_cons, List.map_nil, List.replicate, WT, lcT, setT1, setT2, setT3, wipe1, wipe2, wipe3, Q.cno, Q.csome, List.set_cons_zero, List.set_cons_succ, cmpE, cmpN, cmpLtI, cmpLeI, cmpGtI, cmpGeI, cmpInL, cmpInT, cmpNiL, cmpNiT, addI, subI, lenL, lenT, tupL, lstT, lstL, isiLL, isiTT, isiBB, isiII, isiSS, W_nil, W_set, W_setT, W_newL, W_newD, W_app, W_ext, W_dput, W_expr, W_ret, W_retN, W_raise, W_ite, W_frz, setK_ok, setK_err, oevK_some, setTK_ok, setTK_err, ifK_true, newLK_ok, appK_is, appK2_ok, appK2_err, extK_is, extK2_ok, extK2_err, dputK_ok, dputK_err, dputK2_is, dputK3_ok, exprK_ok, exprK_err, retK_ok, retK_err, iteK_ok, iteK_err, tstK_true, tstK_false, tstK_not, tstK_dec, frzK_is, slot, List.cons_append, List.nil_append, retO, e1, e2, e3, e4, mod_n hm, hj, e5, stand_ix hp, e6, eq_ints, e7, e8, eq_bool, decide_true, Bool.not_true, Bool.false_eq_true]
end
end Rh

set_option Elab.async false
set_option linter.all false
set_option maxRecDepth 100000
set_option maxHeartbeats 2000000
/-! Goals. -/
namespace Rh
open PySem (PyData Str)
open Enc (e)
open Ord' (lt ok)
open Cd
def goals : List String := ["met", "together", "evenly"]
/-- the ways from hand to hand, round the ring -/
def gapsL (n : Nat) (ps : List Int) : List Int := (List.range ps.length).map fun k => if k + 1 < ps.length then ps.getD (k + 1) 0 - ps.getD k 0 else ps.getD 0 0 + n - ps.getD k 0
/-- whether a stand is in the goal -/
def goalL (n : Nat) (s : String) (rs : List (List Int × String)) (goal : String) (st : List Int) : Bool :=
  if goal = "evenly" then decide (maxI (gapsL n (sortL st)) - minF (gapsL n (sortL st)).tail ((gapsL n (sortL st)).headD 0) < 2) && stillL n s rs st else
  if 1 < (difs st).length then false else decide (goal = "met") || stillL n s rs st
theorem gaps_len (n : Nat) (ps : List Int) : (gapsL n ps).length = ps.length := by
  unfold gapsL
  rw [List.length_map, List.length_range]
theorem sorted_ints_t (st : List Int) (h : st.length ≤ 1000) : bi1D .sorted (iT st) = some (.list ((sortL st).map .int)) := sorted_tuple (α := Int) st (fun _ _ => rfl) (lim_of (by omega))
theorem ints_ix {ps : List Int} {k : Nat} (h : k < ps.length) : ixD (.list (ps.map .int)) (.int k) = some (.int (ps.getD k 0)) := by
  refine L2.atI_nat (j := k) ?_
  rw [List.getElem?_map, List.getElem?_eq_getElem h, List.getD_eq_getElem?_getD, List.getElem?_eq_getElem h]
  rfl
theorem max_ints {xs : List Int} (h : xs ≠ []) : bi1D .max (.list (xs.map .int)) = some (.int (maxI xs)) := by
  show (intsD (xs.map .int)).bind _ = _
  rw [intsD_map]
  show (if xs.isEmpty = true then none else some (PyData.int (maxI xs))) = _
  rw [if_neg]
  intro z
  exact h (List.isEmpty_iff.mp z)
theorem min_ints {xs : List Int} (h : xs ≠ []) (hl : xs.length ≤ 1000) : bi1D .min (.list (xs.map .int)) = some (.int (minF xs.tail (xs.headD 0))) := by
  cases xs with
  | nil => exact absurd rfl h
  | cons x r => exact min_list (α := Int) x r (lim_lt' (by rw [List.length_cons] at hl; omega))
theorem mulI {a b : Int} (h : mulOk a b = true) : binD .Mult (.int a) (.int b) = some (.int (a * b)) := by simp [binD, h]
theorem fdivI {a b : Int} (h : 0 < b) (h2 : b ≤ 100) : binD .FloorDiv (.int a) (.int b) = some (.int (a / b)) := by simp [binD, h, h2]
theorem in_goals (x : String) (h : x ∈ goals) : inD (.str (Str.ofString x)) [.str (Str.ofString "met"), .str (Str.ofString "together"), .str (Str.ofString "evenly")] = some true := by
  have z := in_list (α := String) x goals
  rw [decide_eq_true h] at z
  exact z
section
variable {g : Str → Option PyData} {tab : Str → Option Df} {k : Nat}
structure BaseG (g : Str → Option PyData) (tab : Str → Option Df) : Prop extends BaseS g tab where
  gs : g (Str.ofString "GOALS") = some (.tuple [.str (Str.ofString "met"), .str (Str.ofString "together"), .str (Str.ofString "evenly")])
  look_goal : tab (Str.ofString "look_goal") = some d_look_goal
  gaps : tab (Str.ofString "gaps") = some d_gaps
  is_in : tab (Str.ofString "is_in") = some d_is_in
theorem look_goal_ok (B : BaseG g tab) (hk : 1 ≤ k) {x : String} (h : x ∈ goals) : run g tab k (Str.ofString "look_goal") [.str (Str.ofString x)] = .ok .none := by
  refine run_W B.look_goal hk rfl ?_
  simp only [d_look_goal, Q.var, Q.int, Q.neg, Q.str, Q.bl, Q.non, Q.glob, Q.tup, Q.lst, Q.bin, Q.cmp, Q.chain, Q.inG, Q.nt, Q.bop, Q.ite, Q.ix, Q.sl, Q.tl0, Q.rev, Q.disp, Q.call, Q.bi1, Q.mn2, Q.isi, Q.cnt, Q.tupRg, Q.lstRg, Q.lenO, Q.ixO, Q.nil, Q.cons, Q.b1, Q.and2, Q.or2, Q.no, Q.some_, Q.seq, Q.rng1, Q.rng2, Q.enm, bind_ok, bind_err, rofO_some, Option.map_some, truth, List.getElem?_cons_succ, List.getElem?_cons_zero, len_le0, len_le1, len_le2, len_le3, len_le4, len_le5, limN0, limN1, limN2, limN3, limN4, limN5, if_true, if_false, entry, List.map_cons, List.map_nil, List.replicate, WT, lcT, setT1, setT2, setT3, wipe1, wipe2, wipe3, Q.cno, Q.csome, List.set_cons_zero, List.set_cons_succ, cmpE, cmpN, cmpLtI, cmpLeI, cmpGtI, cmpGeI, cmpInL, cmpInT, cmpNiL, cmpNiT, addI, subI, lenL, lenT, tupL, lstT, lstL, isiLL, isiTT, isiBB, isiII, isiSS, W_nil, W_set, W_setT, W_newL, W_newD, W_app, W_ext, W_dput, W_expr, W_ret, W_retN, W_raise, W_ite, W_frz, setK_ok, setK_err, oevK_some, setTK_ok, setTK_err, ifK_true, newLK_ok, appK_is, appK2_ok, appK2_err, extK_is, extK2_ok, extK2_err, dputK_ok, dputK_err, dputK2_is, dputK3_ok, exprK_ok, exprK_err, retK_ok, retK_err, iteK_ok, iteK_err, tstK_true, tstK_false, tstK_not, tstK_dec, frzK_is, slot, List.cons_append, List.nil_append, retO, B.gs, in_goals x h, Bool.not_true, Bool.false_eq_true, if_true]
theorem foldl_app {α β : Type} (f : α → β) : ∀ (xs : List α) (acc : List β), xs.foldl (fun acc x => acc ++ [f x]) acc = acc ++ xs.map f
  | [], acc => by simp
  | x :: r, acc => by rw [List.foldl_cons, foldl_app f r]; simp
theorem enum_range (xs : List Int) : (xs.map PyData.int).mapIdx (fun k x => PyData.tuple [.int k, x]) = (List.range xs.length).map fun (k : Nat) => PyData.tuple [.int k, .int (xs.getD k 0)] := by
  apply List.ext_getElem?
  intro i
  rw [List.getElem?_mapIdx, List.getElem?_map, List.getElem?_map]
  by_cases h : i < xs.length
  · rw [List.getElem?_range h, List.getElem?_eq_getElem h]
    simp only [Option.map_some, List.getD_eq_getElem?_getD, List.getElem?_eq_getElem h, Option.getD_some]
  · rw [List.getElem?_eq_none (by omega), List.getElem?_eq_none (by rw [List.length_range]; omega)]
    rfl
theorem gaps_ok (B : BaseG g tab) (hk : 1 ≤ k) (n : Nat) (st : List Int) (h1 : 1 ≤ st.length) (h2 : st.length ≤ 1000) : run g tab k (Str.ofString "gaps") [.int n, iT st] = .ok (.list ((gapsL n (sortL st)).map .int)) := by
  refine run_W B.gaps hk rfl ?_
  simp only [d_gaps, Q.var, Q.int, Q.neg, Q.str, Q.bl, Q.non, Q.glob, Q.tup, Q.lst, Q.bin, Q.cmp, Q.chain, Q.inG, Q.nt, Q.bop, Q.ite, Q.ix, Q.sl, Q.tl0, Q.rev, Q.disp, Q.call, Q.bi1, Q.mn2, Q.isi, Q.cnt, Q.tupRg, Q.lstRg, Q.lenO, Q.ixO, Q.nil, Q.cons, Q.b1, Q.and2, Q.or2, Q.no, Q.some_, Q.seq, Q.rng1, Q.rng2, Q.enm, bind_ok, bind_err, rofO_some, Option.map_some, truth, List.getElem?_cons_succ, List.getElem?_cons_zero, len_le0, len_le1, len_le2, len_le3, len_le4, len_le5, limN0, limN1, limN2, limN3, limN4, limN5, if_true, if_false, entry, List.map_cons, List.map_nil, List.replicate, WT, lcT, setT1, setT2, setT3, wipe1, wipe2, wipe3, Q.cno, Q.csome, List.set_cons_zero, List.set_cons_succ, cmpE, cmpN, cmpLtI, cmpLeI, cmpGtI, cmpGeI, cmpInL, cmpInT, cmpNiL, cmpNiT, addI, subI, lenL, lenT, tupL, lstT, lstL, isiLL, isiTT, isiBB, isiII, isiSS, W_nil, W_set, W_setT, W_newL, W_newD, W_app, W_ext, W_dput, W_expr, W_ret, W_retN, W_raise, W_ite, W_frz, setK_ok, setK_err, oevK_some, setTK_ok, setTK_err, ifK_true, newLK_ok, appK_is, appK2_ok, appK2_err, extK_is, extK2_ok, extK2_err, dputK_ok, dputK_err, dputK2_is, dputK3_ok, exprK_ok, exprK_err, retK_ok, retK_err, iteK_ok, iteK_err, tstK_true, tstK_false, tstK_not, tstK_dec, frzK_is, slot, List.cons_append, List.nil_append, retO, sorted_ints_t st h2]
  have hl : (sortL st).length = st.length := sortL_len st
  generalize sortL st = ps at hl ⊢
  refine W_fold (enc := fun (k : Nat) => PyData.tuple [.int k, .int (ps.getD k 0)]) (fun (acc : List Int) (j : Option Sl × Option Sl) => [some (.sh (.int n)), some (.sh (iT st)), some (.sh (.list (ps.map .int))), some (.own (.list (acc.map .int))), j.1, j.2])
    (fun acc k => acc ++ [if k + 1 < ps.length then ps.getD (k + 1) 0 - ps.getD k 0 else ps.getD 0 0 + n - ps.getD k 0]) (fun i acc => acc.length = i) (List.range ps.length) [] (none, none) ?_ rfl (fun i acc j k hx0 hI => ⟨by simp [hI], ?_⟩) (fun j hI => ?_)
  · simp only [Q.var, Q.int, Q.neg, Q.str, Q.bl, Q.non, Q.glob, Q.tup, Q.lst, Q.bin, Q.cmp, Q.chain, Q.inG, Q.nt, Q.bop, Q.ite, Q.ix, Q.sl, Q.tl0, Q.rev, Q.disp, Q.call, Q.bi1, Q.mn2, Q.isi, Q.cnt, Q.tupRg, Q.lstRg, Q.lenO, Q.ixO, Q.nil, Q.cons, Q.b1, Q.and2, Q.or2, Q.no, Q.some_, Q.seq, Q.rng1, Q.rng2, Q.enm, bind_ok, bind_err, rofO_some, Option.map_some, truth, List.getElem?_cons_succ, List.getElem?_cons_zero, len_le0, len_le1, len_le2, len_le3, len_le4, len_le5, limN0, limN1, limN2, limN3, limN4, limN5, if_true, if_false, entry, List.map_cons, List.map_nil, List.replicate, WT, lcT, setT1, setT2, setT3, wipe1, wipe2, wipe3, Q.cno, Q.csome, List.set_cons_zero, List.set_cons_succ, cmpE, cmpN, cmpLtI, cmpLeI, cmpGtI, cmpGeI, cmpInL, cmpInT, cmpNiL, cmpNiT, addI, subI, lenL, lenT, tupL, lstT, lstL, isiLL, isiTT, isiBB, isiII, isiSS, enum_range]
  · have hx := List.mem_range.mp (List.mem_of_getElem? hx0)
    have hi := (List.getElem?_eq_some_iff.mp hx0).1
    rw [List.length_range] at hi
    have a1 : (acc.map PyData.int).length < lim := lim_lt' (by rw [List.length_map]; omega)
    have a2 : (((k + 1 : Nat) : Int) < ((ps.map PyData.int).length : Int)) ↔ k + 1 < ps.length := by rw [List.length_map]; omega
    have a3 : (k : Int) + 1 = ((k + 1 : Nat) : Int) := rfl
    by_cases h : k + 1 < ps.length
    · simp only [b_gaps_0, Q.var, Q.int, Q.neg, Q.str, Q.bl, Q.non, Q.glob, Q.tup, Q.lst, Q.bin, Q.cmp, Q.chain, Q.inG, Q.nt, Q.bop, Q.ite, Q.ix, Q.sl, Q.tl0, Q.rev, Q.disp, Q.call, Q.bi1, Q.mn2, Q.isi, Q.cnt, Q.tupRg, Q.lstRg, Q.lenO, Q.ixO, Q.nil, Q.cons, Q.b1, Q.and2, Q.or2, Q.no, Q.some_, Q.seq, Q.rng1, Q.rng2, Q.enm, bind_ok, bind_err, rofO_some, Option.map_some, truth, List.getElem?_cons_succ, List.getElem?_cons_zero, len_le0, len_le1, len_le2, len_le3, len_le4, len_le5, limN0, limN1, limN2, limN3, limN4, limN5, if_true, if_false, entry, List.map_cons, List.map_nil, List.replicate, WT, lcT, setT1, setT2, setT3, wipe1, wipe2, wipe3, Q.cno, Q.csome, List.set_cons_zero, List.set_cons_succ, cmpE, cmpN, cmpLtI, cmpLeI, cmpGtI, cmpGeI, cmpInL, cmpInT, cmpNiL, cmpNiT, addI, subI, lenL, lenT, tupL, lstT, lstL, isiLL, isiTT, isiBB, isiII, isiSS, W_nil, W_set, W_setT, W_newL, W_newD, W_app, W_ext, W_dput, W_expr, W_ret, W_retN, W_raise, W_ite, W_frz, setK_ok, setK_err, oevK_some, setTK_ok, setTK_err, ifK_true, newLK_ok, appK_is, appK2_ok, appK2_err, extK_is, extK2_ok, extK2_err, dputK_ok, dputK_err, dputK2_is, dputK3_ok, exprK_ok, exprK_err, retK_ok, retK_err, iteK_ok, iteK_err, tstK_true, tstK_false, tstK_not, tstK_dec, frzK_is, slot, List.cons_append, List.nil_append, retO, a2, h, a3, ints_ix h, decide_true, ifK_pos a1]
      exact ⟨(_, _), .inl (by rw [List.map_append]; rfl)⟩
    · have i0 := ints_ix (ps := ps) (k := 0) (by omega)
      simp only [Int.natCast_zero] at i0
      simp only [b_gaps_0, Q.var, Q.int, Q.neg, Q.str, Q.bl, Q.non, Q.glob, Q.tup, Q.lst, Q.bin, Q.cmp, Q.chain, Q.inG, Q.nt, Q.bop, Q.ite, Q.ix, Q.sl, Q.tl0, Q.rev, Q.disp, Q.call, Q.bi1, Q.mn2, Q.isi, Q.cnt, Q.tupRg, Q.lstRg, Q.lenO, Q.ixO, Q.nil, Q.cons, Q.b1, Q.and2, Q.or2, Q.no, Q.some_, Q.seq, Q.rng1, Q.rng2, Q.enm, bind_ok, bind_err, rofO_some, Option.map_some, truth, List.getElem?_cons_succ, List.getElem?_cons_zero, len_le0, len_le1, len_le2, len_le3, len_le4, len_le5, limN0, limN1, limN2, limN3, limN4, limN5, if_true, if_false, entry, List.map_cons, List.map_nil, List.replicate, WT, lcT, setT1, setT2, setT3, wipe1, wipe2, wipe3, Q.cno, Q.csome, List.set_cons_zero, List.set_cons_succ, cmpE, cmpN, cmpLtI, cmpLeI, cmpGtI, cmpGeI, cmpInL, cmpInT, cmpNiL, cmpNiT, addI, subI, lenL, lenT, tupL, lstT, lstL, isiLL, isiTT, isiBB, isiII, isiSS, W_nil, W_set, W_setT, W_newL, W_newD, W_app, W_ext, W_dput, W_expr, W_ret, W_retN, W_raise, W_ite, W_frz, setK_ok, setK_err, oevK_some, setTK_ok, setTK_err, ifK_true, newLK_ok, appK_is, appK2_ok, appK2_err, extK_is, extK2_ok, extK2_err, dputK_ok, dputK_err, dputK2_is, dputK3_ok, exprK_ok, exprK_err, retK_ok, retK_err, iteK_ok, iteK_err, tstK_true, tstK_false, tstK_not, tstK_dec, frzK_is, slot, List.cons_append, List.nil_append, retO, a2, h, a3, decide_false, i0, ifK_pos a1]
      exact ⟨(_, _), .inl (by rw [List.map_append]; rfl)⟩
  · rw [foldl_app, List.nil_append]
    simp only [Q.var, Q.int, Q.neg, Q.str, Q.bl, Q.non, Q.glob, Q.tup, Q.lst, Q.bin, Q.cmp, Q.chain, Q.inG, Q.nt, Q.bop, Q.ite, Q.ix, Q.sl, Q.tl0, Q.rev, Q.disp, Q.call, Q.bi1, Q.mn2, Q.isi, Q.cnt, Q.tupRg, Q.lstRg, Q.lenO, Q.ixO, Q.nil, Q.cons, Q.b1, Q.and2, Q.or2, Q.no, Q.some_, Q.seq, Q.rng1, Q.rng2, Q.enm, bind_ok, bind_err, rofO_some, Option.map_some, truth, List.getElem?_cons_succ, List.getElem?_cons_zero, len_le0, len_le1, len_le2, len_le3, len_le4, len_le5, limN0, limN1, limN2, limN3, limN4, limN5, if_true, if_false, entry, List.map_cons, List.map_nil, List.replicate, WT, lcT, setT1, setT2, setT3, wipe1, wipe2, wipe3, Q.cno, Q.csome, List.set_cons_zero, List.set_cons_succ, cmpE, cmpN, cmpLtI, cmpLeI, cmpGtI, cmpGeI, cmpInL, cmpInT, cmpNiL, cmpNiT, addI, subI, lenL, lenT, tupL, lstT, lstL, isiLL, isiTT, isiBB, isiII, isiSS, W_nil, W_set, W_setT, W_newL, W_newD, W_app, W_ext, W_dput, W_expr, W_ret, W_retN, W_raise, W_ite, W_frz, setK_ok, setK_err, oevK_some, setTK_ok, setTK_err, ifK_true, newLK_ok, appK_is, appK2_ok, appK2_err, extK_is, extK2_ok, extK2_err, dputK_ok, dputK_err, dputK2_is, dputK3_ok, exprK_ok, exprK_err, retK_ok, retK_err, iteK_ok, iteK_err, tstK_true, tstK_false, tstK_not, tstK_dec, frzK_is, slot, List.cons_append, List.nil_append, retO]
    rfl
theorem is_in_ok (B : BaseG g tab) (hk : 6 ≤ k) {n : Nat} (hn : 0 < n) (hn2 : n ≤ 1000) (s : String) (rs : List (List Int × String)) (goal : String) (st : List Int) (h1 : 1 ≤ st.length) (h2 : st.length ≤ 1000) :
    run g tab k (Str.ofString "is_in") [bookT n s rs, .str (Str.ofString goal), iT st] = .ok (.bool (goalL n s rs goal st)) := by
  refine run_W B.is_in (by omega) rfl ?_
  have e1 := gaps_ok (g := g) (k := k - 1) B (by omega) n st h1 h2
  have e2 := is_still_ok (g := g) (k := k - 1) B.toBaseS (by omega) hn hn2 s rs st h2
  have hl : (sortL st).length = st.length := sortL_len st
  have hg : gapsL n (sortL st) ≠ [] := fun z => by
    have := gaps_len n (sortL st)
    rw [z, hl] at this
    simp at this
    omega
  have e3 := max_ints hg
  have e4 := min_ints hg (by rw [gaps_len, hl]; exact h2)
  have e5 : lenSD (iT st) = some (.int (difs st).length) := by
    show (intsD (st.map .int)).bind _ = _
    rw [intsD_map]
    show (if st.length ≤ 1000 then _ else _) = _
    rw [if_pos h2]
  unfold goalL
  by_cases g1 : goal = "evenly"
  · by_cases g2 : maxI (gapsL n (sortL st)) - minF (gapsL n (sortL st)).tail ((gapsL n (sortL st)).headD 0) < 2
    · simp only [d_is_in, Q.var, Q.int, Q.neg, Q.str, Q.bl, Q.non, Q.glob, Q.tup, Q.lst, Q.bin, Q.cmp, Q.chain, Q.inG, Q.nt, Q.bop, Q.ite, Q.ix, Q.sl, Q.tl0, Q.rev, Q.disp, Q.call, Q.bi1, Q.mn2, Q.isi, Q.cnt, Q.tupRg, Q.lstRg, Q.lenO, Q.ixO, Q.nil, Q.cons, Q.b1, Q.and2, Q.or2, Q.no, Q.some_, Q.seq, Q.rng1, Q.rng2, Q.enm, bind_ok, bind_err, rofO_some, Option.map_some, truth, List.getElem?_cons_succ, List.getElem?_cons_zero, len_le0, len_le1, len_le2, len_le3, len_le4, len_le5, limN0, limN1, limN2, limN3, limN4, limN5, if_true, if_false, entry, List.map_cons, List.map_nil, List.replicate, WT, lcT, setT1, setT2, setT3, wipe1, wipe2, wipe3, Q.cno, Q.csome, List.set_cons_zero, List.set_cons_succ, cmpE, cmpN, cmpLtI, cmpLeI, cmpGtI, cmpGeI, cmpInL, cmpInT, cmpNiL, cmpNiT, addI, subI, lenL, lenT, tupL, lstT, lstL, isiLL, isiTT, isiBB, isiII, isiSS, W_nil, W_set, W_setT, W_newL, W_newD, W_app, W_ext, W_dput, W_expr, W_ret, W_retN, W_raise, W_ite, W_frz, setK_ok, setK_err, oevK_some, setTK_ok, setTK_err, ifK_true, newLK_ok, appK_is, appK2_ok, appK2_err, extK_is, extK2_ok, extK2_err, dputK_ok, dputK_err, dputK2_is, dputK3_ok, exprK_ok, exprK_err, retK_ok, retK_err, iteK_ok, iteK_err, tstK_true, tstK_false, tstK_not, tstK_dec, frzK_is, slot, List.cons_append, List.nil_append, retO, book_ix0, eq_str, g1, e1, e2, e3, e4, g2, decide_true, Bool.true_and]
    · simp only [d_is_in, Q.var, Q.int, Q.neg, Q.str, Q.bl, Q.non, Q.glob, Q.tup, Q.lst, Q.bin, Q.cmp, Q.chain, Q.inG, Q.nt, Q.bop, Q.ite, Q.ix, Q.sl, Q.tl0, Q.rev, Q.disp, Q.call, Q.bi1, Q.mn2, Q.isi, Q.cnt, Q.tupRg, Q.lstRg, Q.lenO, Q.ixO, Q.nil, Q.cons, Q.b1, Q.and2, Q.or2, Q.no, Q.some_, Q.seq, Q.rng1, Q.rng2, Q.enm, bind_ok, bind_err, rofO_some, Option.map_some, truth, List.getElem?_cons_succ, List.getElem?_cons_zero, len_le0, len_le1, len_le2, len_le3, len_le4, len_le5, limN0, limN1, limN2, limN3, limN4, limN5, if_true, if_false, entry, List.map_cons, List.map_nil, List.replicate, WT, lcT, setT1, setT2, setT3, wipe1, wipe2, wipe3, Q.cno, Q.csome, List.set_cons_zero, List.set_cons_succ, cmpE, cmpN, cmpLtI, cmpLeI, cmpGtI, cmpGeI, cmpInL, cmpInT, cmpNiL, cmpNiT, addI, subI, lenL, lenT, tupL, lstT, lstL, isiLL, isiTT, isiBB, isiII, isiSS, W_nil, W_set, W_setT, W_newL, W_newD, W_app, W_ext, W_dput, W_expr, W_ret, W_retN, W_raise, W_ite, W_frz, setK_ok, setK_err, oevK_some, setTK_ok, setTK_err, ifK_true, newLK_ok, appK_is, appK2_ok, appK2_err, extK_is, extK2_ok, extK2_err, dputK_ok, dputK_err, dputK2_is, dputK3_ok, exprK_ok, exprK_err, retK_ok, retK_err, iteK_ok, iteK_err, tstK_true, tstK_false, tstK_not, tstK_dec, frzK_is, slot, List.cons_append, List.nil_append, retO, book_ix0, eq_str, g1, e1, e2, e3, e4, g2, decide_true, decide_false, Bool.false_and]
  · have c1 : ((1 : Int) < ((difs st).length : Int)) ↔ 1 < (difs st).length := by omega
    by_cases g3 : 1 < (difs st).length
    · simp only [d_is_in, Q.var, Q.int, Q.neg, Q.str, Q.bl, Q.non, Q.glob, Q.tup, Q.lst, Q.bin, Q.cmp, Q.chain, Q.inG, Q.nt, Q.bop, Q.ite, Q.ix, Q.sl, Q.tl0, Q.rev, Q.disp, Q.call, Q.bi1, Q.mn2, Q.isi, Q.cnt, Q.tupRg, Q.lstRg, Q.lenO, Q.ixO, Q.nil, Q.cons, Q.b1, Q.and2, Q.or2, Q.no, Q.some_, Q.seq, Q.rng1, Q.rng2, Q.enm, bind_ok, bind_err, rofO_some, Option.map_some, truth, List.getElem?_cons_succ, List.getElem?_cons_zero, len_le0, len_le1, len_le2, len_le3, len_le4, len_le5, limN0, limN1, limN2, limN3, limN4, limN5, if_true, if_false, entry, List.map_cons, List.map_nil, List.replicate, WT, lcT, setT1, setT2, setT3, wipe1, wipe2, wipe3, Q.cno, Q.csome, List.set_cons_zero, List.set_cons_succ, cmpE, cmpN, cmpLtI, cmpLeI, cmpGtI, cmpGeI, cmpInL, cmpInT, cmpNiL, cmpNiT, addI, subI, lenL, lenT, tupL, lstT, lstL, isiLL, isiTT, isiBB, isiII, isiSS, W_nil, W_set, W_setT, W_newL, W_newD, W_app, W_ext, W_dput, W_expr, W_ret, W_retN, W_raise, W_ite, W_frz, setK_ok, setK_err, oevK_some, setTK_ok, setTK_err, ifK_true, newLK_ok, appK_is, appK2_ok, appK2_err, extK_is, extK2_ok, extK2_err, dputK_ok, dputK_err, dputK2_is, dputK3_ok, exprK_ok, exprK_err, retK_ok, retK_err, iteK_ok, iteK_err, tstK_true, tstK_false, tstK_not, tstK_dec, frzK_is, slot, List.cons_append, List.nil_append, retO, Q.lenS, eq_str, g1, e5, c1, g3, decide_true, decide_false]
    · by_cases g4 : goal = "met"
      · simp only [d_is_in, Q.var, Q.int, Q.neg, Q.str, Q.bl, Q.non, Q.glob, Q.tup, Q.lst, Q.bin, Q.cmp, Q.chain, Q.inG, Q.nt, Q.bop, Q.ite, Q.ix, Q.sl, Q.tl0, Q.rev, Q.disp, Q.call, Q.bi1, Q.mn2, Q.isi, Q.cnt, Q.tupRg, Q.lstRg, Q.lenO, Q.ixO, Q.nil, Q.cons, Q.b1, Q.and2, Q.or2, Q.no, Q.some_, Q.seq, Q.rng1, Q.rng2, Q.enm, bind_ok, bind_err, rofO_some, Option.map_some, truth, List.getElem?_cons_succ, List.getElem?_cons_zero, len_le0, len_le1, len_le2, len_le3, len_le4, len_le5, limN0, limN1, limN2, limN3, limN4, limN5, if_true, if_false, entry, List.map_cons, List.map_nil, List.replicate, WT, lcT, setT1, setT2, setT3, wipe1, wipe2, wipe3, Q.cno, Q.csome, List.set_cons_zero, List.set_cons_succ, cmpE, cmpN, cmpLtI, cmpLeI, cmpGtI, cmpGeI, cmpInL, cmpInT, cmpNiL, cmpNiT, addI, subI, lenL, lenT, tupL, lstT, lstL, isiLL, isiTT, isiBB, isiII, isiSS, W_nil, W_set, W_setT, W_newL, W_newD, W_app, W_ext, W_dput, W_expr, W_ret, W_retN, W_raise, W_ite, W_frz, setK_ok, setK_err, oevK_some, setTK_ok, setTK_err, ifK_true, newLK_ok, appK_is, appK2_ok, appK2_err, extK_is, extK2_ok, extK2_err, dputK_ok, dputK_err, dputK2_is, dputK3_ok, exprK_ok, exprK_err, retK_ok, retK_err, iteK_ok, iteK_err, tstK_true, tstK_false, tstK_not, tstK_dec, frzK_is, slot, List.cons_append, List.nil_append, retO, Q.lenS, eq_str, g1, e5, c1, g3, g4, decide_true, decide_false, Bool.true_or]
        simp [g4]
      · simp only [d_is_in, Q.var, Q.int, Q.neg, Q.str, Q.bl, Q.non, Q.glob, Q.tup, Q.lst, Q.bin, Q.cmp, Q.chain, Q.inG, Q.nt, Q.bop, Q.ite, Q.ix, Q.sl, Q.tl0, Q.rev, Q.disp, Q.call, Q.bi1, Q.mn2, Q.isi, Q.cnt, Q.tupRg, Q.lstRg, Q.lenO, Q.ixO, Q.nil, Q.cons, Q.b1, Q.and2, Q.or2, Q.no, Q.some_, Q.seq, Q.rng1, Q.rng2, Q.enm, bind_ok, bind_err, rofO_some, Option.map_some, truth, List.getElem?_cons_succ, List.getElem?_cons_zero, len_le0, len_le1, len_le2, len_le3, len_le4, len_le5, limN0, limN1, limN2, limN3, limN4, limN5, if_true, if_false, entry, List.map_cons, List.map_nil, List.replicate, WT, lcT, setT1, setT2, setT3, wipe1, wipe2, wipe3, Q.cno, Q.csome, List.set_cons_zero, List.set_cons_succ, cmpE, cmpN, cmpLtI, cmpLeI, cmpGtI, cmpGeI, cmpInL, cmpInT, cmpNiL, cmpNiT, addI, subI, lenL, lenT, tupL, lstT, lstL, isiLL, isiTT, isiBB, isiII, isiSS, W_nil, W_set, W_setT, W_newL, W_newD, W_app, W_ext, W_dput, W_expr, W_ret, W_retN, W_raise, W_ite, W_frz, setK_ok, setK_err, oevK_some, setTK_ok, setTK_err, ifK_true, newLK_ok, appK_is, appK2_ok, appK2_err, extK_is, extK2_ok, extK2_err, dputK_ok, dputK_err, dputK2_is, dputK3_ok, exprK_ok, exprK_err, retK_ok, retK_err, iteK_ok, iteK_err, tstK_true, tstK_false, tstK_not, tstK_dec, frzK_is, slot, List.cons_append, List.nil_append, retO, Q.lenS, eq_str, g1, e2, e5, c1, g3, g4, decide_true, decide_false, Bool.false_or]
theorem there_ok (B : BaseG g tab) (ht : tab (Str.ofString "there") = some d_there) (hk : 7 ≤ k) {n : Nat} {s : String} {rs : List (List Int × String)} (h : IsB n s rs) {goal : String} (hg : goal ∈ goals) {st : List Int} (hs : IsS n st) :
    run g tab k (Str.ofString "there") [bookT n s rs, .str (Str.ofString goal), iT st] = .ok (.bool (goalL n s rs goal st)) := by
  refine run_W ht (by omega) rfl ?_
  have e1 := look_ok' (g := g) (k := k - 1) B.toBase (by omega) h hs
  have e2 := look_goal_ok (g := g) (k := k - 1) B (by omega) hg
  have e3 := is_in_ok (g := g) (k := k - 1) B (by omega) (n := n) (by have := h.lo; omega) (by have := h.hi; omega) s rs goal st hs.lo (by have := hs.hi; omega)
  simp only [d_there, Q.var, Q.int, Q.neg, Q.str, Q.bl, Q.non, Q.glob, Q.tup, Q.lst, Q.bin, Q.cmp, Q.chain, Q.inG, Q.nt, Q.bop, Q.ite, Q.ix, Q.sl, Q.tl0, Q.rev, Q.disp, Q.call, Q.bi1, Q.mn2, Q.isi, Q.cnt, Q.tupRg, Q.lstRg, Q.lenO, Q.ixO, Q.nil, Q.cons, Q.b1, Q.and2, Q.or2, Q.no, Q.some_, Q.seq, Q.rng1, Q.rng2, Q.enm, bind_ok, bind_err, rofO_some, Option.map_some, truth, List.getElem?_cons_succ, List.getElem?_cons_zero, len_le0, len_le1, len_le2, len_le3, len_le4, len_le5, limN0, limN1, limN2, limN3, limN4, limN5, if_true, if_false, entry, List.map_cons, List.map_nil, List.replicate, WT, lcT, setT1, setT2, setT3, wipe1, wipe2, wipe3, Q.cno, Q.csome, List.set_cons_zero, List.set_cons_succ, cmpE, cmpN, cmpLtI, cmpLeI, cmpGtI, cmpGeI, cmpInL, cmpInT, cmpNiL, cmpNiT, addI, subI, lenL, lenT, tupL, lstT, lstL, isiLL, isiTT, isiBB, isiII, isiSS, W_nil, W_set, W_setT, W_newL, W_newD, W_app, W_ext, W_dput, W_expr, W_ret, W_retN, W_raise, W_ite, W_frz, setK_ok, setK_err, oevK_some, setTK_ok, setTK_err, ifK_true, newLK_ok, appK_is, appK2_ok, appK2_err, extK_is, extK2_ok, extK2_err, dputK_ok, dputK_err, dputK2_is, dputK3_ok, exprK_ok, exprK_err, retK_ok, retK_err, iteK_ok, iteK_err, tstK_true, tstK_false, tstK_not, tstK_dec, frzK_is, slot, List.cons_append, List.nil_append, retO, e1, e2, e3]
end
/-! ### the law's own -/
theorem gaps_law (n : Nat) (ps : List Int) (h : 1 ≤ ps.length) : gapsL n ps = ((List.range (ps.length - 1)).map fun k => ps.getD (k + 1) 0 - ps.getD k 0) ++ [ps.getD 0 0 + n - ps.getD (ps.length - 1) 0] := by
  unfold gapsL
  obtain ⟨m, hm⟩ : ∃ m, ps.length = m + 1 := ⟨ps.length - 1, by omega⟩
  rw [hm, List.range_succ, List.map_append, Nat.add_sub_cancel]
  congr 1
  · refine List.map_congr_left fun k hk => ?_
    rw [List.mem_range] at hk
    rw [if_pos (by omega)]
  · simp
theorem sort_ends (st : List Int) (h : 1 ≤ st.length) : (sortL st).getD 0 0 = (sortL st).getD (st.length - 1) 0 ↔ ¬ 1 < (difs st).length := by
  have hl : (sortL st).length = st.length := sortL_len st
  have hm := sortL_mem st
  have hs := sortL_sorted st
  generalize sortL st = ps at hl hm hs
  have at0 : ∀ i (hi : i < ps.length), ps.getD 0 0 ≤ ps[i] ∧ ps[i] ≤ ps.getD (st.length - 1) 0 := by
    intro i hi
    rw [List.pairwise_iff_getElem] at hs
    have le : ∀ a b : Nat, ∀ (ha : a < ps.length) (hb : b < ps.length), a ≤ b → ps[a] ≤ ps[b] := by
      intro a b ha hb hab
      rcases Nat.lt_or_ge a b with z | z
      · have := hs a b ha hb z
        simp [leB, lt] at this
        omega
      · have e : a = b := by omega
        subst e
        exact Int.le_refl _
    constructor
    · rw [List.getD_eq_getElem?_getD, List.getElem?_eq_getElem (by omega)]
      exact le 0 i _ hi (by omega)
    · rw [List.getD_eq_getElem?_getD, List.getElem?_eq_getElem (by omega)]
      exact le i _ hi _ (by omega)
  constructor
  · intro he hd
    have one : ∀ x ∈ difs st, x = ps.getD 0 0 := fun x hx => by
      rw [difs_mem] at hx
      obtain ⟨i, hi, rfl⟩ := List.getElem_of_mem ((hm x).mpr hx)
      have := at0 i hi
      omega
    have nd := difs_nodup st
    match hdd : difs st with
    | [] => rw [hdd] at hd; simp at hd
    | [x] => rw [hdd] at hd; simp at hd
    | x :: y :: r =>
      rw [hdd] at nd one
      have e1 := one x (by simp)
      have e2 := one y (by simp)
      rw [e1, e2] at nd
      simp at nd
  · intro hd
    have m1 : ps.getD 0 0 ∈ difs st := by
      rw [difs_mem, ← hm, List.getD_eq_getElem?_getD, List.getElem?_eq_getElem (show 0 < ps.length by omega)]
      exact List.getElem_mem _
    have m2 : ps.getD (st.length - 1) 0 ∈ difs st := by
      rw [difs_mem, ← hm, List.getD_eq_getElem?_getD, List.getElem?_eq_getElem (show st.length - 1 < ps.length by omega)]
      exact List.getElem_mem _
    match hdd : difs st with
    | [] => rw [hdd] at m1; cases m1
    | [x] =>
      rw [hdd] at m1 m2
      rw [List.mem_singleton.mp m1, List.mem_singleton.mp m2]
    | x :: y :: r => rw [hdd] at hd; simp at hd
section
variable {g : Str → Option PyData} {tab : Str → Option Df} {k : Nat}
structure BaseLG (tab : Str → Option Df) : Prop extends BaseLS tab where
  goal : tab (Str.ofString "_law_goal") = some d_law_goal
theorem ints_last {ps : List Int} (h : 1 ≤ ps.length) : ixD (.list (ps.map .int)) (.int (-1)) = some (.int (ps.getD (ps.length - 1) 0)) := by
  have hn : ps ≠ [] := fun z => by rw [z] at h; cases h
  have e1 := List.dropLast_concat_getLast hn
  have e2 : ps.getD (ps.length - 1) 0 = ps.getLast hn := by
    rw [List.getD_eq_getElem?_getD, ← List.getLast?_eq_getElem?, List.getLast?_eq_getLast hn]
    rfl
  rw [e2]
  show L2.atI (ps.map PyData.int) (-1) = _
  conv => lhs; rw [← e1, List.map_append]
  exact L2.atI_last _ _
theorem law_goal_ok (B : BaseLG tab) (hk : 4 ≤ k) {n : Nat} {s : String} {rs : List (List Int × String)} (h : IsB n s rs) (goal : String) (st : List Int) (h1 : 1 ≤ st.length) (h2 : st.length ≤ 1000) :
    run g tab k (Str.ofString "_law_goal") [bookT n s rs, .str (Str.ofString goal), iT st] = .ok (.bool (goalL n s rs goal st)) := by
  refine run_W B.goal (by omega) rfl ?_
  have e2 := law_still_ok (g := g) (k := k - 1) B.toBaseLS (by omega) h st h2
  have es := sorted_ints_t st h2
  have hl : (sortL st).length = st.length := sortL_len st
  have ends := sort_ends st h1
  unfold goalL
  generalize sortL st = ps at hl ends es ⊢
  have hp : 1 ≤ ps.length := by omega
  have hg : gapsL n ps ≠ [] := fun z => by
    have := gaps_len n ps
    rw [z, hl] at this
    simp at this
    omega
  have e3 := max_ints hg
  have e4 := min_ints hg (by rw [gaps_len, hl]; exact h2)
  have i0 := ints_ix (ps := ps) (k := 0) (by omega)
  simp only [Int.natCast_zero] at i0
  have il := ints_last hp
  have key : ∀ a b c d : Option Sl, ev g (run g tab (k - 1)) c_law_goal_0 [a, b, c, some (.sh (.list (ps.map .int))), d, none] = .ok (.list (((List.range (ps.length - 1)).map fun k => ps.getD (k + 1) 0 - ps.getD k 0).map .int)) := by
    intro a b c d
    refine lc_map (ea := fun (j : Nat) => .int j) (eb := .int) _ (List.range (ps.length - 1)) ?_ (by rw [List.length_range]; exact lim_of (by omega)) fun j hj => ?_
    · have z : (((ps.map PyData.int).length : Int) - 1) = ((ps.length - 1 : Nat) : Int) := by rw [List.length_map]; omega
      simp only [Q.var, Q.int, Q.neg, Q.str, Q.bl, Q.non, Q.glob, Q.tup, Q.lst, Q.bin, Q.cmp, Q.chain, Q.inG, Q.nt, Q.bop, Q.ite, Q.ix, Q.sl, Q.tl0, Q.rev, Q.disp, Q.call, Q.bi1, Q.mn2, Q.isi, Q.cnt, Q.tupRg, Q.lstRg, Q.lenO, Q.ixO, Q.nil, Q.cons, Q.b1, Q.and2, Q.or2, Q.no, Q.some_, Q.seq, Q.rng1, Q.rng2, Q.enm, bind_ok, bind_err, rofO_some, Option.map_some, truth, List.getElem?_cons_succ, List.getElem?_cons_zero, len_le0, len_le1, len_le2, len_le3, len_le4, len_le5, limN0, limN1, limN2, limN3, limN4, limN5, if_true, if_false, entry, List.map_cons, List.map_nil, List.replicate, WT, lcT, setT1, setT2, setT3, wipe1, wipe2, wipe3, Q.cno, Q.csome, List.set_cons_zero, List.set_cons_succ, cmpE, cmpN, cmpLtI, cmpLeI, cmpGtI, cmpGeI, cmpInL, cmpInT, cmpNiL, cmpNiT, addI, subI, lenL, lenT, tupL, lstT, lstL, isiLL, isiTT, isiBB, isiII, isiSS, z, small_of (show ps.length - 1 ≤ 1000000 by omega), rangeD_nat]
    · rw [List.mem_range] at hj
      have i1 := ints_ix (ps := ps) (k := j) (by omega)
      have i2 := ints_ix (ps := ps) (k := j + 1) (by omega)
      have a3 : (j : Int) + 1 = ((j + 1 : Nat) : Int) := rfl
      simp only [Q.var, Q.int, Q.neg, Q.str, Q.bl, Q.non, Q.glob, Q.tup, Q.lst, Q.bin, Q.cmp, Q.chain, Q.inG, Q.nt, Q.bop, Q.ite, Q.ix, Q.sl, Q.tl0, Q.rev, Q.disp, Q.call, Q.bi1, Q.mn2, Q.isi, Q.cnt, Q.tupRg, Q.lstRg, Q.lenO, Q.ixO, Q.nil, Q.cons, Q.b1, Q.and2, Q.or2, Q.no, Q.some_, Q.seq, Q.rng1, Q.rng2, Q.enm, bind_ok, bind_err, rofO_some, Option.map_some, truth, List.getElem?_cons_succ, List.getElem?_cons_zero, len_le0, len_le1, len_le2, len_le3, len_le4, len_le5, limN0, limN1, limN2, limN3, limN4, limN5, if_true, if_false, entry, List.map_cons, List.map_nil, List.replicate, WT, lcT, setT1, setT2, setT3, wipe1, wipe2, wipe3, Q.cno, Q.csome, List.set_cons_zero, List.set_cons_succ, cmpE, cmpN, cmpLtI, cmpLeI, cmpGtI, cmpGeI, cmpInL, cmpInT, cmpNiL, cmpNiT, addI, subI, lenL, lenT, tupL, lstT, lstL, isiLL, isiTT, isiBB, isiII, isiSS, a3, i1, i2]
  have cat : binD .Add (.list (((List.range (ps.length - 1)).map fun k => ps.getD (k + 1) 0 - ps.getD k 0).map .int)) (.list [.int (ps.getD 0 0 + n - ps.getD (ps.length - 1) 0)]) = some (.list ((gapsL n ps).map .int)) := by
    rw [gaps_law n ps hp, List.map_append]
    show (if _ then _ else _) = _
    rw [if_pos]
    · rfl
    · simp only [List.length_map, List.length_range, List.length_cons, List.length_nil]
      exact lim_of (by omega)
  by_cases g1 : goal = "evenly"
  · by_cases g2 : maxI (gapsL n ps) - minF (gapsL n ps).tail ((gapsL n ps).headD 0) < 2
    · have g3 : maxI (gapsL n ps) - minF (gapsL n ps).tail ((gapsL n ps).headD 0) ≤ 1 := by omega
      simp only [d_law_goal, Q.var, Q.int, Q.neg, Q.str, Q.bl, Q.non, Q.glob, Q.tup, Q.lst, Q.bin, Q.cmp, Q.chain, Q.inG, Q.nt, Q.bop, Q.ite, Q.ix, Q.sl, Q.tl0, Q.rev, Q.disp, Q.call, Q.bi1, Q.mn2, Q.isi, Q.cnt, Q.tupRg, Q.lstRg, Q.lenO, Q.ixO, Q.nil, Q.cons, Q.b1, Q.and2, Q.or2, Q.no, Q.some_, Q.seq, Q.rng1, Q.rng2, Q.enm, bind_ok, bind_err, rofO_some, Option.map_some, truth, List.getElem?_cons_succ, List.getElem?_cons_zero, len_le0, len_le1, len_le2, len_le3, len_le4, len_le5, limN0, limN1, limN2, limN3, limN4, limN5, if_true, if_false, entry, List.map_cons, List.map_nil, List.replicate, WT, lcT, setT1, setT2, setT3, wipe1, wipe2, wipe3, Q.cno, Q.csome, List.set_cons_zero, List.set_cons_succ, cmpE, cmpN, cmpLtI, cmpLeI, cmpGtI, cmpGeI, cmpInL, cmpInT, cmpNiL, cmpNiT, addI, subI, lenL, lenT, tupL, lstT, lstL, isiLL, isiTT, isiBB, isiII, isiSS, W_nil, W_set, W_setT, W_newL, W_newD, W_app, W_ext, W_dput, W_expr, W_ret, W_retN, W_raise, W_ite, W_frz, setK_ok, setK_err, oevK_some, setTK_ok, setTK_err, ifK_true, newLK_ok, appK_is, appK2_ok, appK2_err, extK_is, extK2_ok, extK2_err, dputK_ok, dputK_err, dputK2_is, dputK3_ok, exprK_ok, exprK_err, retK_ok, retK_err, iteK_ok, iteK_err, tstK_true, tstK_false, tstK_not, tstK_dec, frzK_is, slot, List.cons_append, List.nil_append, retO, es, book_ix0, eq_str, g1, key, i0, il, cat, e2, e3, e4, g2, g3, decide_true, Bool.true_and]
    · have g3 : ¬ maxI (gapsL n ps) - minF (gapsL n ps).tail ((gapsL n ps).headD 0) ≤ 1 := by omega
      simp only [d_law_goal, Q.var, Q.int, Q.neg, Q.str, Q.bl, Q.non, Q.glob, Q.tup, Q.lst, Q.bin, Q.cmp, Q.chain, Q.inG, Q.nt, Q.bop, Q.ite, Q.ix, Q.sl, Q.tl0, Q.rev, Q.disp, Q.call, Q.bi1, Q.mn2, Q.isi, Q.cnt, Q.tupRg, Q.lstRg, Q.lenO, Q.ixO, Q.nil, Q.cons, Q.b1, Q.and2, Q.or2, Q.no, Q.some_, Q.seq, Q.rng1, Q.rng2, Q.enm, bind_ok, bind_err, rofO_some, Option.map_some, truth, List.getElem?_cons_succ, List.getElem?_cons_zero, len_le0, len_le1, len_le2, len_le3, len_le4, len_le5, limN0, limN1, limN2, limN3, limN4, limN5, if_true, if_false, entry, List.map_cons, List.map_nil, List.replicate, WT, lcT, setT1, setT2, setT3, wipe1, wipe2, wipe3, Q.cno, Q.csome, List.set_cons_zero, List.set_cons_succ, cmpE, cmpN, cmpLtI, cmpLeI, cmpGtI, cmpGeI, cmpInL, cmpInT, cmpNiL, cmpNiT, addI, subI, lenL, lenT, tupL, lstT, lstL, isiLL, isiTT, isiBB, isiII, isiSS, W_nil, W_set, W_setT, W_newL, W_newD, W_app, W_ext, W_dput, W_expr, W_ret, W_retN, W_raise, W_ite, W_frz, setK_ok, setK_err, oevK_some, setTK_ok, setTK_err, ifK_true, newLK_ok, appK_is, appK2_ok, appK2_err, extK_is, extK2_ok, extK2_err, dputK_ok, dputK_err, dputK2_is, dputK3_ok, exprK_ok, exprK_err, retK_ok, retK_err, iteK_ok, iteK_err, tstK_true, tstK_false, tstK_not, tstK_dec, frzK_is, slot, List.cons_append, List.nil_append, retO, es, book_ix0, eq_str, g1, key, i0, il, cat, e2, e3, e4, g2, g3, decide_true, decide_false, Bool.false_and]
  · rw [← hl] at ends
    by_cases g3 : 1 < (difs st).length
    · have g5 : ¬ ps.getD 0 0 = ps.getD (ps.length - 1) 0 := fun z => (ends.mp z) g3
      simp only [d_law_goal, Q.var, Q.int, Q.neg, Q.str, Q.bl, Q.non, Q.glob, Q.tup, Q.lst, Q.bin, Q.cmp, Q.chain, Q.inG, Q.nt, Q.bop, Q.ite, Q.ix, Q.sl, Q.tl0, Q.rev, Q.disp, Q.call, Q.bi1, Q.mn2, Q.isi, Q.cnt, Q.tupRg, Q.lstRg, Q.lenO, Q.ixO, Q.nil, Q.cons, Q.b1, Q.and2, Q.or2, Q.no, Q.some_, Q.seq, Q.rng1, Q.rng2, Q.enm, bind_ok, bind_err, rofO_some, Option.map_some, truth, List.getElem?_cons_succ, List.getElem?_cons_zero, len_le0, len_le1, len_le2, len_le3, len_le4, len_le5, limN0, limN1, limN2, limN3, limN4, limN5, if_true, if_false, entry, List.map_cons, List.map_nil, List.replicate, WT, lcT, setT1, setT2, setT3, wipe1, wipe2, wipe3, Q.cno, Q.csome, List.set_cons_zero, List.set_cons_succ, cmpE, cmpN, cmpLtI, cmpLeI, cmpGtI, cmpGeI, cmpInL, cmpInT, cmpNiL, cmpNiT, addI, subI, lenL, lenT, tupL, lstT, lstL, isiLL, isiTT, isiBB, isiII, isiSS, W_nil, W_set, W_setT, W_newL, W_newD, W_app, W_ext, W_dput, W_expr, W_ret, W_retN, W_raise, W_ite, W_frz, setK_ok, setK_err, oevK_some, setTK_ok, setTK_err, ifK_true, newLK_ok, appK_is, appK2_ok, appK2_err, extK_is, extK2_ok, extK2_err, dputK_ok, dputK_err, dputK2_is, dputK3_ok, exprK_ok, exprK_err, retK_ok, retK_err, iteK_ok, iteK_err, tstK_true, tstK_false, tstK_not, tstK_dec, frzK_is, slot, List.cons_append, List.nil_append, retO, es, eq_str, g1, i0, il, eq_int, g3, g5, decide_true, decide_false, Bool.not_false]
    · have g5 : ps.getD 0 0 = ps.getD (ps.length - 1) 0 := ends.mpr g3
      by_cases g4 : goal = "met"
      · simp only [d_law_goal, Q.var, Q.int, Q.neg, Q.str, Q.bl, Q.non, Q.glob, Q.tup, Q.lst, Q.bin, Q.cmp, Q.chain, Q.inG, Q.nt, Q.bop, Q.ite, Q.ix, Q.sl, Q.tl0, Q.rev, Q.disp, Q.call, Q.bi1, Q.mn2, Q.isi, Q.cnt, Q.tupRg, Q.lstRg, Q.lenO, Q.ixO, Q.nil, Q.cons, Q.b1, Q.and2, Q.or2, Q.no, Q.some_, Q.seq, Q.rng1, Q.rng2, Q.enm, bind_ok, bind_err, rofO_some, Option.map_some, truth, List.getElem?_cons_succ, List.getElem?_cons_zero, len_le0, len_le1, len_le2, len_le3, len_le4, len_le5, limN0, limN1, limN2, limN3, limN4, limN5, if_true, if_false, entry, List.map_cons, List.map_nil, List.replicate, WT, lcT, setT1, setT2, setT3, wipe1, wipe2, wipe3, Q.cno, Q.csome, List.set_cons_zero, List.set_cons_succ, cmpE, cmpN, cmpLtI, cmpLeI, cmpGtI, cmpGeI, cmpInL, cmpInT, cmpNiL, cmpNiT, addI, subI, lenL, lenT, tupL, lstT, lstL, isiLL, isiTT, isiBB, isiII, isiSS, W_nil, W_set, W_setT, W_newL, W_newD, W_app, W_ext, W_dput, W_expr, W_ret, W_retN, W_raise, W_ite, W_frz, setK_ok, setK_err, oevK_some, setTK_ok, setTK_err, ifK_true, newLK_ok, appK_is, appK2_ok, appK2_err, extK_is, extK2_ok, extK2_err, dputK_ok, dputK_err, dputK2_is, dputK3_ok, exprK_ok, exprK_err, retK_ok, retK_err, iteK_ok, iteK_err, tstK_true, tstK_false, tstK_not, tstK_dec, frzK_is, slot, List.cons_append, List.nil_append, retO, es, eq_str, i0, il, eq_int, g3, ← g5, g4, decide_true, Bool.not_true, Bool.true_or]
        simp
      · simp only [d_law_goal, Q.var, Q.int, Q.neg, Q.str, Q.bl, Q.non, Q.glob, Q.tup, Q.lst, Q.bin, Q.cmp, Q.chain, Q.inG, Q.nt, Q.bop, Q.ite, Q.ix, Q.sl, Q.tl0, Q.rev, Q.disp, Q.call, Q.bi1, Q.mn2, Q.isi, Q.cnt, Q.tupRg, Q.lstRg, Q.lenO, Q.ixO, Q.nil, Q.cons, Q.b1, Q.and2, Q.or2, Q.no, Q.some_, Q.seq, Q.rng1, Q.rng2, Q.enm, bind_ok, bind_err, rofO_some, Option.map_some, truth, List.getElem?_cons_succ, List.getElem?_cons_zero, len_le0, len_le1, len_le2, len_le3, len_le4, len_le5, limN0, limN1, limN2, limN3, limN4, limN5, if_true, if_false, entry, List.map_cons, List.map_nil, List.replicate, WT, lcT, setT1, setT2, setT3, wipe1, wipe2, wipe3, Q.cno, Q.csome, List.set_cons_zero, List.set_cons_succ, cmpE, cmpN, cmpLtI, cmpLeI, cmpGtI, cmpGeI, cmpInL, cmpInT, cmpNiL, cmpNiT, addI, subI, lenL, lenT, tupL, lstT, lstL, isiLL, isiTT, isiBB, isiII, isiSS, W_nil, W_set, W_setT, W_newL, W_newD, W_app, W_ext, W_dput, W_expr, W_ret, W_retN, W_raise, W_ite, W_frz, setK_ok, setK_err, oevK_some, setTK_ok, setTK_err, ifK_true, newLK_ok, appK_is, appK2_ok, appK2_err, extK_is, extK2_ok, extK2_err, dputK_ok, dputK_err, dputK2_is, dputK3_ok, exprK_ok, exprK_err, retK_ok, retK_err, iteK_ok, iteK_err, tstK_true, tstK_false, tstK_not, tstK_dec, frzK_is, slot, List.cons_append, List.nil_append, retO, es, eq_str, g1, i0, il, eq_int, g3, ← g5, e2, g4, decide_true, decide_false, Bool.not_true, Bool.false_or]
theorem law_k07 (B : BaseG g tab) (ht : tab (Str.ofString "there") = some d_there) (BL : BaseL tab) (BG : BaseLG tab) (hlaw : tab (Str.ofString "law") = some d_law_k07) {ns : List Int} (hl : ns.length ≤ 63) (hf : Few ns) (hk : 10 ≤ k) : run g tab k (Str.ofString "law") [scrD ns] = .ok (.bool true) := by
  refine run_W hlaw (by omega) rfl ?_
  obtain ⟨n, m, s, rs, st, D⟩ := draws (g := g) BL hl hf 2 4 (i1 := 2) (i2 := 4) rfl rfl
  have hn : 0 < n := by have := D.n3; omega
  have hm : 0 < m := by have := D.m1; omega
  have m4 := D.m4
  have n7 := D.n7
  have e1 := D.book (k := k - 1) (by omega)
  have e2 := D.many (k := k - 1) (by omega)
  have e3 := D.stand (k := k - 1) (by omega)
  have e4 := cell_ok' (g := g) (k := k - 1) BL.toBaseL0 (by omega) ns 0 (z := 0) rfl
  obtain ⟨w, hw, _⟩ := mod_nat (cell ns 0) (show 0 < 4 by omega)
  have m8 : binD .Mod (.int (cell ns 0)) (.int 4) = some (.int w) := by
    have := mod_n (show 0 < 4 by omega) (cell ns 0)
    rw [hw] at this
    exact this
  have hp0 : st[0]? = some (st.getD 0 0) := by
    rw [List.getD_eq_getElem?_getD, List.getElem?_eq_getElem (by have := D.len; omega)]
    rfl
  -- the rest, from any stand
  have fin : ∀ (st' : List Int) (o7 : Option Sl), IsS n st' → W g (run g tab (k - 1)) [.for (.one 4) (.seq (.tup (.cons (.str (Str.ofString "met")) (.cons (.str (Str.ofString "together")) (.cons (.str (Str.ofString "evenly")) .nil))))) b_law_k07_0, .ret (.bl true)]
      [some (.sh (scrD ns)), some (.sh (bookT n s rs)), some (.sh (iT st')), some (.sh (.int w)), none, some (.sh (.int n)), some (.sh (.int m)), o7, none] fun o => retO o = .ok (.bool true) := by
    intro st' o7 hs'
    refine W_fold (enc := fun x : String => .str (Str.ofString x)) (fun (_ : Unit) (j : Option Sl × Option Sl) => [some (.sh (scrD ns)), some (.sh (bookT n s rs)), some (.sh (iT st')), some (.sh (.int w)), j.1, some (.sh (.int n)), some (.sh (.int m)), j.2, none]) (fun _ _ => ()) (fun _ _ => True) goals () (none, o7) ?_ trivial (fun i u j x hx0 _ => ⟨trivial, ?_⟩) (fun j _ => ?_)
    · simp only [Q.var, Q.int, Q.neg, Q.str, Q.bl, Q.non, Q.glob, Q.tup, Q.lst, Q.bin, Q.cmp, Q.chain, Q.inG, Q.nt, Q.bop, Q.ite, Q.ix, Q.sl, Q.tl0, Q.rev, Q.disp, Q.call, Q.bi1, Q.mn2, Q.isi, Q.cnt, Q.tupRg, Q.lstRg, Q.lenO, Q.ixO, Q.nil, Q.cons, Q.b1, Q.and2, Q.or2, Q.no, Q.some_, Q.seq, Q.rng1, Q.rng2, Q.enm, bind_ok, bind_err, rofO_some, Option.map_some, truth, List.getElem?_cons_succ, List.getElem?_cons_zero, len_le0, len_le1, len_le2, len_le3, len_le4, len_le5, limN0, limN1, limN2, limN3, limN4, limN5, if_true, if_false, entry, List.map_cons, List.map_nil, List.replicate, WT, lcT, setT1, setT2, setT3, wipe1, wipe2, wipe3, Q.cno, Q.csome, List.set_cons_zero, List.set_cons_succ, cmpE, cmpN, cmpLtI, cmpLeI, cmpGtI, cmpGeI, cmpInL, cmpInT, cmpNiL, cmpNiT, addI, subI, lenL, lenT, tupL, lstT, lstL, isiLL, isiTT, isiBB, isiII, isiSS]
      rfl
    · have hx := List.mem_of_getElem? hx0
      have t1 := there_ok (g := g) (k := k - 1) B ht (by omega) D.b hx hs'
      have t2 := law_goal_ok (g := g) (k := k - 1) BG (by omega) D.b x st' hs'.lo (by have := hs'.hi; omega)
      simp only [b_law_k07_0, Q.var, Q.int, Q.neg, Q.str, Q.bl, Q.non, Q.glob, Q.tup, Q.lst, Q.bin, Q.cmp, Q.chain, Q.inG, Q.nt, Q.bop, Q.ite, Q.ix, Q.sl, Q.tl0, Q.rev, Q.disp, Q.call, Q.bi1, Q.mn2, Q.isi, Q.cnt, Q.tupRg, Q.lstRg, Q.lenO, Q.ixO, Q.nil, Q.cons, Q.b1, Q.and2, Q.or2, Q.no, Q.some_, Q.seq, Q.rng1, Q.rng2, Q.enm, bind_ok, bind_err, rofO_some, Option.map_some, truth, List.getElem?_cons_succ, List.getElem?_cons_zero, len_le0, len_le1, len_le2, len_le3, len_le4, len_le5, limN0, limN1, limN2, limN3, limN4, limN5, if_true, if_false, entry, List.map_cons, List.map_nil, List.replicate, WT, lcT, setT1, setT2, setT3, wipe1, wipe2, wipe3, Q.cno, Q.csome, List.set_cons_zero, List.set_cons_succ, cmpE, cmpN, cmpLtI, cmpLeI, cmpGtI, cmpGeI, cmpInL, cmpInT, cmpNiL, cmpNiT, addI, subI, lenL, lenT, tupL, lstT, lstL, isiLL, isiTT, isiBB, isiII, isiSS, W_nil, W_set, W_setT, W_newL, W_newD, W_app, W_ext, W_dput, W_expr, W_ret, W_retN, W_raise, W_ite, W_frz, setK_ok, setK_err, oevK_some, setTK_ok, setTK_err, ifK_true, newLK_ok, appK_is, appK2_ok, appK2_err, extK_is, extK2_ok, extK2_err, dputK_ok, dputK_err, dputK2_is, dputK3_ok, exprK_ok, exprK_err, retK_ok, retK_err, iteK_ok, iteK_err, tstK_true, tstK_false, tstK_not, tstK_dec, frzK_is, slot, List.cons_append, List.nil_append, retO, t1, t2, eq_bool, decide_true, Bool.not_true, Bool.false_eq_true]
      exact ⟨(_, _), .inl rfl⟩
    · simp only [Q.var, Q.int, Q.neg, Q.str, Q.bl, Q.non, Q.glob, Q.tup, Q.lst, Q.bin, Q.cmp, Q.chain, Q.inG, Q.nt, Q.bop, Q.ite, Q.ix, Q.sl, Q.tl0, Q.rev, Q.disp, Q.call, Q.bi1, Q.mn2, Q.isi, Q.cnt, Q.tupRg, Q.lstRg, Q.lenO, Q.ixO, Q.nil, Q.cons, Q.b1, Q.and2, Q.or2, Q.no, Q.some_, Q.seq, Q.rng1, Q.rng2, Q.enm, bind_ok, bind_err, rofO_some, Option.map_some, truth, List.getElem?_cons_succ, List.getElem?_cons_zero, len_le0, len_le1, len_le2, len_le3, len_le4, len_le5, limN0, limN1, limN2, limN3, limN4, limN5, if_true, if_false, entry, List.map_cons, List.map_nil, List.replicate, WT, lcT, setT1, setT2, setT3, wipe1, wipe2, wipe3, Q.cno, Q.csome, List.set_cons_zero, List.set_cons_succ, cmpE, cmpN, cmpLtI, cmpLeI, cmpGtI, cmpGeI, cmpInL, cmpInT, cmpNiL, cmpNiT, addI, subI, lenL, lenT, tupL, lstT, lstL, isiLL, isiTT, isiBB, isiII, isiSS, W_nil, W_set, W_setT, W_newL, W_newD, W_app, W_ext, W_dput, W_expr, W_ret, W_retN, W_raise, W_ite, W_frz, setK_ok, setK_err, oevK_some, setTK_ok, setTK_err, ifK_true, newLK_ok, appK_is, appK2_ok, appK2_err, extK_is, extK2_ok, extK2_err, dputK_ok, dputK_err, dputK2_is, dputK3_ok, exprK_ok, exprK_err, retK_ok, retK_err, iteK_ok, iteK_err, tstK_true, tstK_false, tstK_not, tstK_dec, frzK_is, slot, List.cons_append, List.nil_append, retO]
  by_cases w0 : w = 0
  · subst w0
    have c1 : cut (st.map PyData.int) none (some 1) = [.int (st.getD 0 0)] := by
      rw [show (1 : Int) = ((1 : Nat) : Int) from rfl, cut_to]
      cases st with
      | nil => cases hp0
      | cons x r => rfl
    have c2 : binD .Mult (.tuple [.int (st.getD 0 0)]) (.int m) = some (iT (List.replicate m (st.getD 0 0))) := by
      show (if _ then _ else _) = _
      rw [if_pos (by simp; omega)]
      have z : (m : Int).toNat = m := by omega
      rw [z]
      congr 2
      induction m with
      | zero => rfl
      | succ q ih => simp [List.replicate_succ, List.flatten]
    have hs' : IsS n (List.replicate m (st.getD 0 0)) := ⟨by rw [List.length_replicate]; omega, by rw [List.length_replicate]; omega, fun p hp => by
      rw [(List.mem_replicate.mp hp).2]
      exact D.ss.rg _ (List.mem_of_getElem? hp0)⟩
    have q01 : eqD (.int 0) (.int 1) = some false := by rw [eq_int]; rfl
    have q00 : eqD (.int 0) (.int 0) = some true := by rw [eq_int]; rfl
    have m8' : binD .Mod (.int (cell ns 0)) (.int 4) = some (.int 0) := m8
    simp only [d_law_k07, Q.var, Q.int, Q.neg, Q.str, Q.bl, Q.non, Q.glob, Q.tup, Q.lst, Q.bin, Q.cmp, Q.chain, Q.inG, Q.nt, Q.bop, Q.ite, Q.ix, Q.sl, Q.tl0, Q.rev, Q.disp, Q.call, Q.bi1, Q.mn2, Q.isi, Q.cnt, Q.tupRg, Q.lstRg, Q.lenO, Q.ixO, Q.nil, Q.cons, Q.b1, Q.and2, Q.or2, Q.no, Q.some_, Q.seq, Q.rng1, Q.rng2, Q.enm, bind_ok, bind_err, rofO_some, Option.map_some, truth, List.getElem?_cons_succ, List.getElem?_cons_zero, len_le0, len_le1, len_le2, len_le3, len_le4, len_le5, limN0, limN1, limN2, limN3, limN4, limN5, if_true, if_false, entry, List.map_cons, List.map_nil, List.replicate, WT, lcT, setT1, setT2, setT3, wipe1, wipe2, wipe3, Q.cno, Q.csome, List.set_cons_zero, List.set_cons_succ, cmpE, cmpN, cmpLtI, cmpLeI, cmpGtI, cmpGeI, cmpInL, cmpInT, cmpNiL, cmpNiT, addI, subI, lenL, lenT, tupL, lstT, lstL, isiLL, isiTT, isiBB, isiII, isiSS, W_nil, W_set, W_setT, W_newL, W_newD, W_app, W_ext, W_dput, W_expr, W_ret, W_retN, W_raise, W_ite, W_frz, setK_ok, setK_err, oevK_some, setTK_ok, setTK_err, ifK_true, newLK_ok, appK_is, appK2_ok, appK2_err, extK_is, extK2_ok, extK2_err, dputK_ok, dputK_err, dputK2_is, dputK3_ok, exprK_ok, exprK_err, retK_ok, retK_err, iteK_ok, iteK_err, tstK_true, tstK_false, tstK_not, tstK_dec, frzK_is, slot, List.cons_append, List.nil_append, retO, e1, e2, e3, e4, m8', q00, q01, c1, c2]
    exact fin _ none hs'
  · have q0 : eqD (.int w) (.int 0) = some false := by rw [eq_int, decide_eq_false (by omega)]
    by_cases w1 : w = 1
    · subst w1
      have q11 : eqD (.int 1) (.int 1) = some true := by rw [eq_int]; rfl
      have q10 : eqD (.int 1) (.int 0) = some false := by rw [eq_int]; rfl
      have m8' : binD .Mod (.int (cell ns 0)) (.int 4) = some (.int 1) := m8
      have key : ∀ a b c d : Option Sl, ev g (run g tab (k - 1)) c_law_k07_0 [a, b, some (.sh (iT st)), c, d, some (.sh (.int n)), some (.sh (.int m)), none, none] = .ok (.list (((List.range m).map fun (h : Nat) => (st.getD 0 0 + (n : Int) * h / m) % n).map .int)) := by
        intro a b c d
        refine lc_map (ea := fun (j : Nat) => .int j) (eb := .int) _ (List.range m) ?_ (by rw [List.length_range]; exact lim_of (by omega)) fun j hj => ?_
        · simp only [Q.var, Q.int, Q.neg, Q.str, Q.bl, Q.non, Q.glob, Q.tup, Q.lst, Q.bin, Q.cmp, Q.chain, Q.inG, Q.nt, Q.bop, Q.ite, Q.ix, Q.sl, Q.tl0, Q.rev, Q.disp, Q.call, Q.bi1, Q.mn2, Q.isi, Q.cnt, Q.tupRg, Q.lstRg, Q.lenO, Q.ixO, Q.nil, Q.cons, Q.b1, Q.and2, Q.or2, Q.no, Q.some_, Q.seq, Q.rng1, Q.rng2, Q.enm, bind_ok, bind_err, rofO_some, Option.map_some, truth, List.getElem?_cons_succ, List.getElem?_cons_zero, len_le0, len_le1, len_le2, len_le3, len_le4, len_le5, limN0, limN1, limN2, limN3, limN4, limN5, if_true, if_false, entry, List.map_cons, List.map_nil, List.replicate, WT, lcT, setT1, setT2, setT3, wipe1, wipe2, wipe3, Q.cno, Q.csome, List.set_cons_zero, List.set_cons_succ, cmpE, cmpN, cmpLtI, cmpLeI, cmpGtI, cmpGeI, cmpInL, cmpInT, cmpNiL, cmpNiT, addI, subI, lenL, lenT, tupL, lstT, lstL, isiLL, isiTT, isiBB, isiII, isiSS, small_of (show m ≤ 1000000 by omega), rangeD_nat]
        · have i0 := stand_ix hp0
          have i0' : ixD (iT st) (.int 0) = some (.int (st.getD 0 0)) := i0
          have z : mulOk (n : Int) (j : Int) = true := by
            rw [mulOk_iff]
            left
            omega
          have z2 : (0 : Int) < m ∧ (m : Int) ≤ 100 := by omega
          have z3 : (0 : Int) < n := by omega
          simp only [Q.var, Q.int, Q.neg, Q.str, Q.bl, Q.non, Q.glob, Q.tup, Q.lst, Q.bin, Q.cmp, Q.chain, Q.inG, Q.nt, Q.bop, Q.ite, Q.ix, Q.sl, Q.tl0, Q.rev, Q.disp, Q.call, Q.bi1, Q.mn2, Q.isi, Q.cnt, Q.tupRg, Q.lstRg, Q.lenO, Q.ixO, Q.nil, Q.cons, Q.b1, Q.and2, Q.or2, Q.no, Q.some_, Q.seq, Q.rng1, Q.rng2, Q.enm, bind_ok, bind_err, rofO_some, Option.map_some, truth, List.getElem?_cons_succ, List.getElem?_cons_zero, len_le0, len_le1, len_le2, len_le3, len_le4, len_le5, limN0, limN1, limN2, limN3, limN4, limN5, if_true, if_false, entry, List.map_cons, List.map_nil, List.replicate, WT, lcT, setT1, setT2, setT3, wipe1, wipe2, wipe3, Q.cno, Q.csome, List.set_cons_zero, List.set_cons_succ, cmpE, cmpN, cmpLtI, cmpLeI, cmpGtI, cmpGeI, cmpInL, cmpInT, cmpNiL, cmpNiT, addI, subI, lenL, lenT, tupL, lstT, lstL, isiLL, isiTT, isiBB, isiII, isiSS, i0', binD, z, z2.1, z2.2, z3, and_self, if_true]
      have hs' : IsS n ((List.range m).map fun (h : Nat) => (st.getD 0 0 + (n : Int) * h / m) % n) := ⟨by rw [List.length_map, List.length_range]; omega, by rw [List.length_map, List.length_range]; omega, fun p hp => by
        obtain ⟨h, _, rfl⟩ := List.mem_map.mp hp
        exact ⟨Int.emod_nonneg _ (by omega), Int.emod_lt_of_pos _ (by omega)⟩⟩
      simp only [d_law_k07, Q.var, Q.int, Q.neg, Q.str, Q.bl, Q.non, Q.glob, Q.tup, Q.lst, Q.bin, Q.cmp, Q.chain, Q.inG, Q.nt, Q.bop, Q.ite, Q.ix, Q.sl, Q.tl0, Q.rev, Q.disp, Q.call, Q.bi1, Q.mn2, Q.isi, Q.cnt, Q.tupRg, Q.lstRg, Q.lenO, Q.ixO, Q.nil, Q.cons, Q.b1, Q.and2, Q.or2, Q.no, Q.some_, Q.seq, Q.rng1, Q.rng2, Q.enm, bind_ok, bind_err, rofO_some, Option.map_some, truth, List.getElem?_cons_succ, List.getElem?_cons_zero, len_le0, len_le1, len_le2, len_le3, len_le4, len_le5, limN0, limN1, limN2, limN3, limN4, limN5, if_true, if_false, entry, List.map_cons, List.map_nil, List.replicate, WT, lcT, setT1, setT2, setT3, wipe1, wipe2, wipe3, Q.cno, Q.csome, List.set_cons_zero, List.set_cons_succ, cmpE, cmpN, cmpLtI, cmpLeI, cmpGtI, cmpGeI, cmpInL, cmpInT, cmpNiL, cmpNiT, addI, subI, lenL, lenT, tupL, lstT, lstL, isiLL, isiTT, isiBB, isiII, isiSS, W_nil, W_set, W_setT, W_newL, W_newD, W_app, W_ext, W_dput, W_expr, W_ret, W_retN, W_raise, W_ite, W_frz, setK_ok, setK_err, oevK_some, setTK_ok, setTK_err, ifK_true, newLK_ok, appK_is, appK2_ok, appK2_err, extK_is, extK2_ok, extK2_err, dputK_ok, dputK_err, dputK2_is, dputK3_ok, exprK_ok, exprK_err, retK_ok, retK_err, iteK_ok, iteK_err, tstK_true, tstK_false, tstK_not, tstK_dec, frzK_is, slot, List.cons_append, List.nil_append, retO, e1, e2, e3, e4, m8', q11, q10, key]
      exact fin _ none hs'
    · have q1 : eqD (.int w) (.int 1) = some false := by rw [eq_int, decide_eq_false (by omega)]
      simp only [d_law_k07, Q.var, Q.int, Q.neg, Q.str, Q.bl, Q.non, Q.glob, Q.tup, Q.lst, Q.bin, Q.cmp, Q.chain, Q.inG, Q.nt, Q.bop, Q.ite, Q.ix, Q.sl, Q.tl0, Q.rev, Q.disp, Q.call, Q.bi1, Q.mn2, Q.isi, Q.cnt, Q.tupRg, Q.lstRg, Q.lenO, Q.ixO, Q.nil, Q.cons, Q.b1, Q.and2, Q.or2, Q.no, Q.some_, Q.seq, Q.rng1, Q.rng2, Q.enm, bind_ok, bind_err, rofO_some, Option.map_some, truth, List.getElem?_cons_succ, List.getElem?_cons_zero, len_le0, len_le1, len_le2, len_le3, len_le4, len_le5, limN0, limN1, limN2, limN3, limN4, limN5, if_true, if_false, entry, List.map_cons, List.map_nil, List.replicate, WT, lcT, setT1, setT2, setT3, wipe1, wipe2, wipe3, Q.cno, Q.csome, List.set_cons_zero, List.set_cons_succ, cmpE, cmpN, cmpLtI, cmpLeI, cmpGtI, cmpGeI, cmpInL, cmpInT, cmpNiL, cmpNiT, addI, subI, lenL, lenT, tupL, lstT, lstL, isiLL, isiTT, isiBB, isiII, isiSS, W_nil, W_set, W_setT, W_newL, W_newD, W_app, W_ext, W_dput, W_expr, W_ret, W_retN, W_raise, W_ite, W_frz, setK_ok, setK_err, oevK_some, setTK_ok, setTK_err, ifK_true, newLK_ok, appK_is, appK2_ok, appK2_err, extK_is, extK2_ok, extK2_err, dputK_ok, dputK_err, dputK2_is, dputK3_ok, exprK_ok, exprK_err, retK_ok, retK_err, iteK_ok, iteK_err, tstK_true, tstK_false, tstK_not, tstK_dec, frzK_is, slot, List.cons_append, List.nil_append, retO, e1, e2, e3, e4, m8, q0, q1]
      exact fin _ none D.ss
end
end Rh

set_option Elab.async false
set_option linter.all false
set_option maxRecDepth 100000
set_option maxHeartbeats 2000000
/-! Acts. -/
namespace Rh
open PySem (PyData Str)
open Enc (e)
open Ord' (lt ok)
open Cd
/-! ### dicts that only tell what is in them -/
section
variable {α : Type} [DecidableEq α] [Enc α]
abbrev dkT (ks : List α) : List (PyData × PyData) := ks.map fun k => (e k, .bool true)
def addP (acc : List α) (k : α) : List α := if k ∈ acc then acc else acc ++ [k]
theorem dput_dk (k : α) : ∀ acc : List α, dput (e k) (.bool true) (dkT acc) = dkT (addP acc k)
  | [] => by simp [dkT, dput, addP]
  | a :: r => by
    have ih := dput_dk k r
    rw [dkT, List.map_cons, dput, Enc.eqv]
    by_cases h : a = k
    · subst h
      simp [addP]
    · simp only [h, decide_false, Bool.false_eq_true, if_false]
      rw [show (r.map fun k => ((e k : PyData), PyData.bool true)) = dkT r from rfl, ih]
      unfold addP
      have h2 : ¬ k = a := fun z => h z.symm
      by_cases h3 : k ∈ r
      · simp [h3]
      · simp [h2, h3]
theorem addP_mem (acc : List α) (k x : α) : x ∈ addP acc k ↔ x ∈ acc ∨ x = k := by
  unfold addP
  split
  · rename_i h
    constructor
    · exact .inl
    · rintro (z | rfl)
      · exact z
      · exact h
  · simp
theorem addP_nodup {acc : List α} (h : acc.Nodup) (k : α) : (addP acc k).Nodup := by
  unfold addP
  split
  · exact h
  · rename_i h2
    rw [List.nodup_append]
    refine ⟨h, by simp, fun a ha b hb => ?_⟩
    rw [List.mem_singleton] at hb
    subst hb
    rintro rfl
    exact h2 ha
theorem addP_len (acc : List α) (k : α) : (addP acc k).length ≤ acc.length + 1 := by
  unfold addP
  split
  · omega
  · simp
theorem addAll_mem {β : Type} (F : β → α) (x : α) : ∀ (ps : List β) (acc : List α), x ∈ ps.foldl (fun acc p => addP acc (F p)) acc ↔ x ∈ acc ∨ ∃ p ∈ ps, x = F p
  | [], acc => by simp
  | p :: r, acc => by
    rw [List.foldl_cons, addAll_mem F x r, addP_mem]
    constructor
    · rintro ((z | z) | ⟨q, hq, z⟩)
      · exact .inl z
      · exact .inr ⟨p, List.mem_cons_self, z⟩
      · exact .inr ⟨q, List.mem_cons_of_mem _ hq, z⟩
    · rintro (z | ⟨q, hq, z⟩)
      · exact .inl (.inl z)
      · rcases List.mem_cons.mp hq with rfl | hq
        · exact .inl (.inr z)
        · exact .inr ⟨q, hq, z⟩
theorem addAll_nodup {β : Type} (F : β → α) : ∀ (ps : List β) (acc : List α), acc.Nodup → (ps.foldl (fun acc p => addP acc (F p)) acc).Nodup
  | [], _, h => h
  | p :: r, acc, h => addAll_nodup F r _ (addP_nodup h _)
theorem addAll_len {β : Type} (F : β → α) : ∀ (ps : List β) (acc : List α), (ps.foldl (fun acc p => addP acc (F p)) acc).length ≤ acc.length + ps.length
  | [], acc => by simp
  | p :: r, acc => by
    have h1 := addAll_len F r (addP acc (F p))
    have h2 := addP_len acc (F p)
    rw [List.foldl_cons, List.length_cons]
    omega
theorem dk_keys (ks : List α) : (dkT ks).map (·.1) = ks.map e := by
  rw [dkT, List.map_map]
  rfl
theorem sorted_dk [Shal α] [Ord' α] [Key' α] (ks : List α) (h : ∀ x ∈ ks, ok x = true) (hl : ks.length ≤ lim) : bi1D .sorted (.dict (dkT ks)) = some (.list ((sortL ks).map e)) := by
  show (if ((dkT ks).all (fun p => isKey p.1) && sortable ((dkT ks).map (·.1))) = true then some (PyData.list (sortD ((dkT ks).map (·.1)))) else none) = _
  rw [dk_keys, sortable_e ks h hl, sortD_e, if_pos]
  rw [Bool.and_true, List.all_eq_true]
  intro p hp
  obtain ⟨a, _, rfl⟩ := List.mem_map.mp hp
  exact Key'.key a
end
/-! ### groups -/
def orders : List String := ["one", "some", "all"]
def subsL : Nat → List (List Int)
  | 0 => [[]]
  | m + 1 => subsL m ++ (subsL m).map fun g => g ++ [(m : Int)]
/-- which hands may act at once -/
def groupsL (m : Nat) (order : String) : List (List Int) :=
  if order = "one" then (List.range m).map fun (h : Nat) => [(h : Int)] else
  if order = "all" then [(List.range m).map fun (h : Nat) => (h : Int)] else (subsL m).filter fun g => !g.isEmpty
/-- the hands of a mask -/
def maskL (m mask : Nat) : List Int := ((List.range m).filter fun h => decide (mask / 2 ^ h % 2 = 1)).map fun (h : Nat) => (h : Int)
def inOrder (m : Nat) (order : String) (g : List Int) : Bool := decide (order = "some") || (decide (order = "one") && decide (g.length = 1)) || (decide (order = "all") && decide (g.length = m))
theorem masks_groups : ∀ m ∈ [1, 2, 3, 4], ∀ order ∈ orders, ((((List.range' 1 (2 ^ m - 1)).map (maskL m)).filter (inOrder m order)).all fun g => decide (g ∈ groupsL m order)) = true ∧ ((groupsL m order).all fun g => decide (g ∈ ((List.range' 1 (2 ^ m - 1)).map (maskL m)).filter (inOrder m order))) = true := by decide +kernel
theorem groups_some : ∀ m ∈ [1, 2, 3, 4], ∀ order ∈ orders, (groupsL m order).length ≤ 15 ∧ (groupsL m order ≠ []) ∧ ((groupsL m order).all fun g => decide (g.length ≤ 4) && !g.isEmpty && g.all fun h => decide (0 ≤ h ∧ h < m)) = true := by decide +kernel
/-! ### where a group may lead -/
def bothL (sts : List (List Int)) (ps : List Int) : List (List Int) := sts.flatMap fun st => ps.map fun p => st ++ [p]
def movedL (n : Nat) (s : String) (rs : List (List Int × String)) (st : List Int) (gr : List Int) : List (List Int) :=
  (List.range st.length).foldl (fun acc (h : Nat) => bothL acc (if (h : Int) ∈ gr then wishL n s rs st (st.getD h 0) else [st.getD h 0])) [[]]
def actKeys (n : Nat) (s : String) (rs : List (List Int × String)) (st : List Int) (gs : List (List Int)) (acc : List (List Int × List Int)) : List (List Int × List Int) :=
  gs.foldl (fun acc gr => (movedL n s rs st gr).foldl (fun acc o => addP acc (gr, o)) acc) acc
/-- all acts, rising -/
def actsL (n : Nat) (s : String) (rs : List (List Int × String)) (order : String) (st : List Int) : List (List Int × List Int) := sortL (actKeys n s rs st (groupsL st.length order) [])
theorem wish_len (n : Nat) (s : String) (rs : List (List Int × String)) (st : List Int) (p : Int) : (wishL n s rs st p).length ≤ 2 := by
  unfold wishL
  split
  · simp
  · split
    · rw [sortL_len]; simp
    · split <;> simp
theorem wish_ne (n : Nat) (s : String) (rs : List (List Int × String)) (st : List Int) (p : Int) : wishL n s rs st p ≠ [] := by
  intro h
  have z : (wishL n s rs st p).length = 0 := by rw [h]; rfl
  unfold wishL at z
  split at z
  · simp at z
  · split at z
    · rw [sortL_len] at z; simp at z
    · split at z <;> simp at z
theorem both_len (sts : List (List Int)) (ps : List Int) : (bothL sts ps).length = sts.length * ps.length := by
  unfold bothL
  induction sts with
  | nil => simp
  | cons a r ih => rw [List.flatMap_cons, List.length_append, ih, List.length_map, List.length_cons, Nat.succ_mul, Nat.add_comm]
theorem key_mem (n : Nat) (s : String) (rs : List (List Int × String)) (st : List Int) (x : List Int × List Int) : ∀ (gs : List (List Int)) (acc : List (List Int × List Int)), x ∈ actKeys n s rs st gs acc ↔ x ∈ acc ∨ (x.1 ∈ gs ∧ x.2 ∈ movedL n s rs st x.1)
  | [], acc => by simp [actKeys]
  | gr :: gs, acc => by
    unfold actKeys
    rw [List.foldl_cons]
    have ih := key_mem n s rs st x gs ((movedL n s rs st gr).foldl (fun acc o => addP acc (gr, o)) acc)
    unfold actKeys at ih
    rw [ih, addAll_mem (fun o => (gr, o))]
    constructor
    · rintro ((z | ⟨p, hp, rfl⟩) | z)
      · exact .inl z
      · exact .inr ⟨List.mem_cons_self, hp⟩
      · exact .inr ⟨List.mem_cons_of_mem _ z.1, z.2⟩
    · rintro (z | ⟨h1, h2⟩)
      · exact .inl (.inl z)
      · rcases List.mem_cons.mp h1 with z | z
        · exact .inl (.inr ⟨x.2, by rw [← z]; exact h2, by rw [← z]⟩)
        · exact .inr ⟨z, h2⟩
theorem key_nodup (n : Nat) (s : String) (rs : List (List Int × String)) (st : List Int) : ∀ (gs : List (List Int)) (acc : List (List Int × List Int)), acc.Nodup → (actKeys n s rs st gs acc).Nodup
  | [], acc, h => h
  | gr :: gs, acc, h => key_nodup n s rs st gs _ (addAll_nodup (fun o => (gr, o)) _ _ h)
end Rh

set_option Elab.async false
set_option linter.all false
set_option maxRecDepth 100000
set_option maxHeartbeats 2000000
/-! What the core code computes: acts. -/
namespace Rh
open PySem (PyData Str)
open Enc (e)
open Ord' (lt ok)
open Cd
theorem foldl_ext {α β : Type} (F : α → List β) : ∀ (xs : List α) (acc : List β), xs.foldl (fun acc x => acc ++ F x) acc = acc ++ xs.flatMap F
  | [], acc => by simp
  | x :: r, acc => by rw [List.foldl_cons, foldl_ext F r]; simp
theorem at_lt {α : Type} {xs : List α} {i : Nat} {x : α} (h : xs[i]? = some x) : i < xs.length := (List.getElem?_eq_some_iff.mp h).1
theorem cat_row (a b : List Int) (h : a.length + b.length ≤ 10000) : binD .Add (iT a) (iT b) = some (iT (a ++ b)) := by
  show (if (a.map PyData.int).length + (b.map PyData.int).length ≤ lim then some (PyData.tuple (a.map PyData.int ++ b.map PyData.int)) else none) = _
  rw [if_pos (by rw [List.length_map, List.length_map]; exact lim_of (by omega)), ← List.map_append]
theorem cat_one (a : List Int) (p : Int) (h : a.length ≤ 1000) : binD .Add (iT a) (.tuple [.int p]) = some (iT (a ++ [p])) := cat_row a [p] (by simp; omega)
theorem cat_lists {α : Type} (f : α → PyData) (a b : List α) (h : a.length + b.length ≤ 100000) : binD .Add (.list (a.map f)) (.list (b.map f)) = some (.list ((a ++ b).map f)) := by
  show (if (a.map f).length + (b.map f).length ≤ lim then some (PyData.list (a.map f ++ b.map f)) else none) = _
  rw [if_pos (by rw [List.length_map, List.length_map]; exact lim_of (by omega)), List.map_append]
theorem in_ints (x : Int) (xs : List Int) : inD (.int x) (xs.map .int) = some (decide (x ∈ xs)) := in_list (α := Int) x xs
section
variable {g : Str → Option PyData} {tab : Str → Option Df} {k : Nat}
theorem both_ok (h : tab (Str.ofString "both") = some d_both) (hk : 1 ≤ k) (sts : List (List Int)) (ps : List Int) (h1 : ∀ st ∈ sts, st.length ≤ 1000) (h2 : sts.length ≤ 1000) (h3 : ps.length ≤ 100) :
    run g tab k (Str.ofString "both") [.list (sts.map iT), .list (ps.map .int)] = .ok (.list ((bothL sts ps).map iT)) := by
  refine run_W h hk rfl ?_
  have key : ∀ (a o : Option Sl) (st : List Int), st.length ≤ 1000 → ev g (run g tab (k - 1)) c_both_0 [a, some (.sh (.list (ps.map .int))), o, some (.sh (iT st)), none] = .ok (.list ((ps.map fun p => st ++ [p]).map iT)) := by
    intro a o st hs
    refine lc_map (ea := .int) (eb := iT) _ ps (by simp only [Q.var, Q.int, Q.neg, Q.str, Q.bl, Q.non, Q.glob, Q.tup, Q.lst, Q.bin, Q.cmp, Q.chain, Q.inG, Q.nt, Q.bop, Q.ite, Q.ix, Q.sl, Q.tl0, Q.rev, Q.disp, Q.call, Q.bi1, Q.mn2, Q.isi, Q.cnt, Q.tupRg, Q.lstRg, Q.lenO, Q.ixO, Q.nil, Q.cons, Q.b1, Q.and2, Q.or2, Q.no, Q.some_, Q.seq, Q.rng1, Q.rng2, Q.enm, bind_ok, bind_err, rofO_some, Option.map_some, truth, List.getElem?_cons_succ, List.getElem?_cons_zero, len_le0, len_le1, len_le2, len_le3, len_le4, len_le5, limN0, limN1, limN2, limN3, limN4, limN5, if_true, if_false, entry, List.map_cons, List.map_nil, List.replicate, WT, lcT, setT1, setT2, setT3, wipe1, wipe2, wipe3, Q.cno, Q.csome, List.set_cons_zero, List.set_cons_succ, cmpE, cmpN, cmpLtI, cmpLeI, cmpGtI, cmpGeI, cmpInL, cmpInT, cmpNiL, cmpNiT, addI, subI, lenL, lenT, tupL, lstT, lstL, isiLL, isiTT, isiBB, isiII, isiSS]) (lim_of (by omega)) fun p hp => ?_
    simp only [Q.var, Q.int, Q.neg, Q.str, Q.bl, Q.non, Q.glob, Q.tup, Q.lst, Q.bin, Q.cmp, Q.chain, Q.inG, Q.nt, Q.bop, Q.ite, Q.ix, Q.sl, Q.tl0, Q.rev, Q.disp, Q.call, Q.bi1, Q.mn2, Q.isi, Q.cnt, Q.tupRg, Q.lstRg, Q.lenO, Q.ixO, Q.nil, Q.cons, Q.b1, Q.and2, Q.or2, Q.no, Q.some_, Q.seq, Q.rng1, Q.rng2, Q.enm, bind_ok, bind_err, rofO_some, Option.map_some, truth, List.getElem?_cons_succ, List.getElem?_cons_zero, len_le0, len_le1, len_le2, len_le3, len_le4, len_le5, limN0, limN1, limN2, limN3, limN4, limN5, if_true, if_false, entry, List.map_cons, List.map_nil, List.replicate, WT, lcT, setT1, setT2, setT3, wipe1, wipe2, wipe3, Q.cno, Q.csome, List.set_cons_zero, List.set_cons_succ, cmpE, cmpN, cmpLtI, cmpLeI, cmpGtI, cmpGeI, cmpInL, cmpInT, cmpNiL, cmpNiT, addI, subI, lenL, lenT, tupL, lstT, lstL, isiLL, isiTT, isiBB, isiII, isiSS, cat_one st p hs]
  have big : sts.length * ps.length ≤ 100000 := Nat.mul_le_mul h2 h3
  simp only [d_both, Q.var, Q.int, Q.neg, Q.str, Q.bl, Q.non, Q.glob, Q.tup, Q.lst, Q.bin, Q.cmp, Q.chain, Q.inG, Q.nt, Q.bop, Q.ite, Q.ix, Q.sl, Q.tl0, Q.rev, Q.disp, Q.call, Q.bi1, Q.mn2, Q.isi, Q.cnt, Q.tupRg, Q.lstRg, Q.lenO, Q.ixO, Q.nil, Q.cons, Q.b1, Q.and2, Q.or2, Q.no, Q.some_, Q.seq, Q.rng1, Q.rng2, Q.enm, bind_ok, bind_err, rofO_some, Option.map_some, truth, List.getElem?_cons_succ, List.getElem?_cons_zero, len_le0, len_le1, len_le2, len_le3, len_le4, len_le5, limN0, limN1, limN2, limN3, limN4, limN5, if_true, if_false, entry, List.map_cons, List.map_nil, List.replicate, WT, lcT, setT1, setT2, setT3, wipe1, wipe2, wipe3, Q.cno, Q.csome, List.set_cons_zero, List.set_cons_succ, cmpE, cmpN, cmpLtI, cmpLeI, cmpGtI, cmpGeI, cmpInL, cmpInT, cmpNiL, cmpNiT, addI, subI, lenL, lenT, tupL, lstT, lstL, isiLL, isiTT, isiBB, isiII, isiSS, W_nil, W_set, W_setT, W_newL, W_newD, W_app, W_ext, W_dput, W_expr, W_ret, W_retN, W_raise, W_ite, W_frz, setK_ok, setK_err, oevK_some, setTK_ok, setTK_err, ifK_true, newLK_ok, appK_is, appK2_ok, appK2_err, extK_is, extK2_ok, extK2_err, dputK_ok, dputK_err, dputK2_is, dputK3_ok, exprK_ok, exprK_err, retK_ok, retK_err, iteK_ok, iteK_err, tstK_true, tstK_false, tstK_not, tstK_dec, frzK_is, slot, List.cons_append, List.nil_append, retO]
  refine W_fold (enc := iT) (fun (acc : List (List Int)) (j : Option Sl) => [some (.sh (.list (sts.map iT))), some (.sh (.list (ps.map .int))), some (.own (.list (acc.map iT))), j, none]) (fun acc st => acc ++ ps.map fun p => st ++ [p]) (fun i acc => acc.length = i * ps.length) sts [] none
    (by simp only [Q.var, Q.int, Q.neg, Q.str, Q.bl, Q.non, Q.glob, Q.tup, Q.lst, Q.bin, Q.cmp, Q.chain, Q.inG, Q.nt, Q.bop, Q.ite, Q.ix, Q.sl, Q.tl0, Q.rev, Q.disp, Q.call, Q.bi1, Q.mn2, Q.isi, Q.cnt, Q.tupRg, Q.lstRg, Q.lenO, Q.ixO, Q.nil, Q.cons, Q.b1, Q.and2, Q.or2, Q.no, Q.some_, Q.seq, Q.rng1, Q.rng2, Q.enm, bind_ok, bind_err, rofO_some, Option.map_some, truth, List.getElem?_cons_succ, List.getElem?_cons_zero, len_le0, len_le1, len_le2, len_le3, len_le4, len_le5, limN0, limN1, limN2, limN3, limN4, limN5, if_true, if_false, entry, List.map_cons, List.map_nil, List.replicate, WT, lcT, setT1, setT2, setT3, wipe1, wipe2, wipe3, Q.cno, Q.csome, List.set_cons_zero, List.set_cons_succ, cmpE, cmpN, cmpLtI, cmpLeI, cmpGtI, cmpGeI, cmpInL, cmpInT, cmpNiL, cmpNiT, addI, subI, lenL, lenT, tupL, lstT, lstL, isiLL, isiTT, isiBB, isiII, isiSS]) (by simp) (fun i acc j st hx hI => ⟨by rw [List.length_append, hI, List.length_map, Nat.succ_mul], ?_⟩) (fun j hI => ?_)
  · have hs := h1 st (List.mem_of_getElem? hx)
    have hi : (i + 1) * ps.length ≤ 100000 := Nat.le_trans (Nat.mul_le_mul_right _ (at_lt hx)) big
    rw [Nat.succ_mul] at hi
    have z : (acc.map iT).length + ((ps.map fun p => st ++ [p]).map iT).length ≤ lim := lim_of (by rw [List.length_map, List.length_map, List.length_map, hI]; omega)
    simp only [b_both_0, Q.var, Q.int, Q.neg, Q.str, Q.bl, Q.non, Q.glob, Q.tup, Q.lst, Q.bin, Q.cmp, Q.chain, Q.inG, Q.nt, Q.bop, Q.ite, Q.ix, Q.sl, Q.tl0, Q.rev, Q.disp, Q.call, Q.bi1, Q.mn2, Q.isi, Q.cnt, Q.tupRg, Q.lstRg, Q.lenO, Q.ixO, Q.nil, Q.cons, Q.b1, Q.and2, Q.or2, Q.no, Q.some_, Q.seq, Q.rng1, Q.rng2, Q.enm, bind_ok, bind_err, rofO_some, Option.map_some, truth, List.getElem?_cons_succ, List.getElem?_cons_zero, len_le0, len_le1, len_le2, len_le3, len_le4, len_le5, limN0, limN1, limN2, limN3, limN4, limN5, if_true, if_false, entry, List.map_cons, List.map_nil, List.replicate, WT, lcT, setT1, setT2, setT3, wipe1, wipe2, wipe3, Q.cno, Q.csome, List.set_cons_zero, List.set_cons_succ, cmpE, cmpN, cmpLtI, cmpLeI, cmpGtI, cmpGeI, cmpInL, cmpInT, cmpNiL, cmpNiT, addI, subI, lenL, lenT, tupL, lstT, lstL, isiLL, isiTT, isiBB, isiII, isiSS, W_nil, W_set, W_setT, W_newL, W_newD, W_app, W_ext, W_dput, W_expr, W_ret, W_retN, W_raise, W_ite, W_frz, setK_ok, setK_err, oevK_some, setTK_ok, setTK_err, ifK_true, newLK_ok, appK_is, appK2_ok, appK2_err, extK_is, extK2_ok, extK2_err, dputK_ok, dputK_err, dputK2_is, dputK3_ok, exprK_ok, exprK_err, retK_ok, retK_err, iteK_ok, iteK_err, tstK_true, tstK_false, tstK_not, tstK_dec, frzK_is, slot, List.cons_append, List.nil_append, retO, key _ _ st hs, ifK_pos z]
    exact ⟨_, .inl (by rw [List.map_append])⟩
  · rw [foldl_ext, List.nil_append]
    simp only [Q.var, Q.int, Q.neg, Q.str, Q.bl, Q.non, Q.glob, Q.tup, Q.lst, Q.bin, Q.cmp, Q.chain, Q.inG, Q.nt, Q.bop, Q.ite, Q.ix, Q.sl, Q.tl0, Q.rev, Q.disp, Q.call, Q.bi1, Q.mn2, Q.isi, Q.cnt, Q.tupRg, Q.lstRg, Q.lenO, Q.ixO, Q.nil, Q.cons, Q.b1, Q.and2, Q.or2, Q.no, Q.some_, Q.seq, Q.rng1, Q.rng2, Q.enm, bind_ok, bind_err, rofO_some, Option.map_some, truth, List.getElem?_cons_succ, List.getElem?_cons_zero, len_le0, len_le1, len_le2, len_le3, len_le4, len_le5, limN0, limN1, limN2, limN3, limN4, limN5, if_true, if_false, entry, List.map_cons, List.map_nil, List.replicate, WT, lcT, setT1, setT2, setT3, wipe1, wipe2, wipe3, Q.cno, Q.csome, List.set_cons_zero, List.set_cons_succ, cmpE, cmpN, cmpLtI, cmpLeI, cmpGtI, cmpGeI, cmpInL, cmpInT, cmpNiL, cmpNiT, addI, subI, lenL, lenT, tupL, lstT, lstL, isiLL, isiTT, isiBB, isiII, isiSS, W_nil, W_set, W_setT, W_newL, W_newD, W_app, W_ext, W_dput, W_expr, W_ret, W_retN, W_raise, W_ite, W_frz, setK_ok, setK_err, oevK_some, setTK_ok, setTK_err, ifK_true, newLK_ok, appK_is, appK2_ok, appK2_err, extK_is, extK2_ok, extK2_err, dputK_ok, dputK_err, dputK2_is, dputK3_ok, exprK_ok, exprK_err, retK_ok, retK_err, iteK_ok, iteK_err, tstK_true, tstK_false, tstK_not, tstK_dec, frzK_is, slot, List.cons_append, List.nil_append, retO]
    rfl
theorem subs_fold (m : Nat) : (List.range m).foldl (fun acc (h : Nat) => acc ++ acc.map fun gr => gr ++ [(h : Int)]) [[]] = subsL m := by
  induction m with
  | zero => rfl
  | succ m ih => rw [List.range_succ, List.foldl_append, ih]; rfl
theorem subs_len (m : Nat) : (subsL m).length = 2 ^ m ∧ ∀ gr ∈ subsL m, gr.length ≤ m := by
  induction m with
  | zero => simp [subsL]
  | succ m ih =>
    refine ⟨?_, fun gr hg => ?_⟩
    · rw [subsL, List.length_append, List.length_map, ih.1, Nat.pow_succ]
      omega
    · rw [subsL, List.mem_append] at hg
      rcases hg with z | z
      · have := ih.2 gr z
        omega
      · obtain ⟨q, hq, rfl⟩ := List.mem_map.mp z
        have := ih.2 q hq
        rw [List.length_append]
        simp
        omega
theorem groups_ok (h : tab (Str.ofString "groups") = some d_groups) (hk : 1 ≤ k) (m : Nat) (hm : m ≤ 4) (order : String) : run g tab k (Str.ofString "groups") [.int m, .str (Str.ofString order)] = .ok (.list ((groupsL m order).map iT)) := by
  refine run_W h hk rfl ?_
  have sm := small_of (show m ≤ 1000000 by omega)
  unfold groupsL
  by_cases o1 : order = "one"
  · have key : ∀ a b c : Option Sl, ev g (run g tab (k - 1)) c_groups_0 [some (.sh (.int m)), a, b, none, c] = .ok (.list (((List.range m).map fun (h : Nat) => [(h : Int)]).map iT)) := by
      intro a b c
      refine lc_map (ea := fun (j : Nat) => .int j) (eb := iT) _ (List.range m) (by simp only [Q.var, Q.int, Q.neg, Q.str, Q.bl, Q.non, Q.glob, Q.tup, Q.lst, Q.bin, Q.cmp, Q.chain, Q.inG, Q.nt, Q.bop, Q.ite, Q.ix, Q.sl, Q.tl0, Q.rev, Q.disp, Q.call, Q.bi1, Q.mn2, Q.isi, Q.cnt, Q.tupRg, Q.lstRg, Q.lenO, Q.ixO, Q.nil, Q.cons, Q.b1, Q.and2, Q.or2, Q.no, Q.some_, Q.seq, Q.rng1, Q.rng2, Q.enm, bind_ok, bind_err, rofO_some, Option.map_some, truth, List.getElem?_cons_succ, List.getElem?_cons_zero, len_le0, len_le1, len_le2, len_le3, len_le4, len_le5, limN0, limN1, limN2, limN3, limN4, limN5, if_true, if_false, entry, List.map_cons, List.map_nil, List.replicate, WT, lcT, setT1, setT2, setT3, wipe1, wipe2, wipe3, Q.cno, Q.csome, List.set_cons_zero, List.set_cons_succ, cmpE, cmpN, cmpLtI, cmpLeI, cmpGtI, cmpGeI, cmpInL, cmpInT, cmpNiL, cmpNiT, addI, subI, lenL, lenT, tupL, lstT, lstL, isiLL, isiTT, isiBB, isiII, isiSS, sm, rangeD_nat]) (by rw [List.length_range]; exact lim_of (by omega)) fun j hj => ?_
      simp only [Q.var, Q.int, Q.neg, Q.str, Q.bl, Q.non, Q.glob, Q.tup, Q.lst, Q.bin, Q.cmp, Q.chain, Q.inG, Q.nt, Q.bop, Q.ite, Q.ix, Q.sl, Q.tl0, Q.rev, Q.disp, Q.call, Q.bi1, Q.mn2, Q.isi, Q.cnt, Q.tupRg, Q.lstRg, Q.lenO, Q.ixO, Q.nil, Q.cons, Q.b1, Q.and2, Q.or2, Q.no, Q.some_, Q.seq, Q.rng1, Q.rng2, Q.enm, bind_ok, bind_err, rofO_some, Option.map_some, truth, List.getElem?_cons_succ, List.getElem?_cons_zero, len_le0, len_le1, len_le2, len_le3, len_le4, len_le5, limN0, limN1, limN2, limN3, limN4, limN5, if_true, if_false, entry, List.map_cons, List.map_nil, List.replicate, WT, lcT, setT1, setT2, setT3, wipe1, wipe2, wipe3, Q.cno, Q.csome, List.set_cons_zero, List.set_cons_succ, cmpE, cmpN, cmpLtI, cmpLeI, cmpGtI, cmpGeI, cmpInL, cmpInT, cmpNiL, cmpNiT, addI, subI, lenL, lenT, tupL, lstT, lstL, isiLL, isiTT, isiBB, isiII, isiSS]
      rfl
    simp only [d_groups, Q.var, Q.int, Q.neg, Q.str, Q.bl, Q.non, Q.glob, Q.tup, Q.lst, Q.bin, Q.cmp, Q.chain, Q.inG, Q.nt, Q.bop, Q.ite, Q.ix, Q.sl, Q.tl0, Q.rev, Q.disp, Q.call, Q.bi1, Q.mn2, Q.isi, Q.cnt, Q.tupRg, Q.lstRg, Q.lenO, Q.ixO, Q.nil, Q.cons, Q.b1, Q.and2, Q.or2, Q.no, Q.some_, Q.seq, Q.rng1, Q.rng2, Q.enm, bind_ok, bind_err, rofO_some, Option.map_some, truth, List.getElem?_cons_succ, List.getElem?_cons_zero, len_le0, len_le1, len_le2, len_le3, len_le4, len_le5, limN0, limN1, limN2, limN3, limN4, limN5, if_true, if_false, entry, List.map_cons, List.map_nil, List.replicate, WT, lcT, setT1, setT2, setT3, wipe1, wipe2, wipe3, Q.cno, Q.csome, List.set_cons_zero, List.set_cons_succ, cmpE, cmpN, cmpLtI, cmpLeI, cmpGtI, cmpGeI, cmpInL, cmpInT, cmpNiL, cmpNiT, addI, subI, lenL, lenT, tupL, lstT, lstL, isiLL, isiTT, isiBB, isiII, isiSS, W_nil, W_set, W_setT, W_newL, W_newD, W_app, W_ext, W_dput, W_expr, W_ret, W_retN, W_raise, W_ite, W_frz, setK_ok, setK_err, oevK_some, setTK_ok, setTK_err, ifK_true, newLK_ok, appK_is, appK2_ok, appK2_err, extK_is, extK2_ok, extK2_err, dputK_ok, dputK_err, dputK2_is, dputK3_ok, exprK_ok, exprK_err, retK_ok, retK_err, iteK_ok, iteK_err, tstK_true, tstK_false, tstK_not, tstK_dec, frzK_is, slot, List.cons_append, List.nil_append, retO, eq_str, o1, decide_true, key]
  · by_cases o2 : order = "all"
    · have r0 : rangeD 0 m = ((List.range m).map fun (h : Nat) => (h : Int)).map PyData.int := by
        rw [rangeD_nat, List.map_map]
        rfl
      have ne : ¬ ("all" : String) = "one" := by decide
      simp only [d_groups, Q.var, Q.int, Q.neg, Q.str, Q.bl, Q.non, Q.glob, Q.tup, Q.lst, Q.bin, Q.cmp, Q.chain, Q.inG, Q.nt, Q.bop, Q.ite, Q.ix, Q.sl, Q.tl0, Q.rev, Q.disp, Q.call, Q.bi1, Q.mn2, Q.isi, Q.cnt, Q.tupRg, Q.lstRg, Q.lenO, Q.ixO, Q.nil, Q.cons, Q.b1, Q.and2, Q.or2, Q.no, Q.some_, Q.seq, Q.rng1, Q.rng2, Q.enm, bind_ok, bind_err, rofO_some, Option.map_some, truth, List.getElem?_cons_succ, List.getElem?_cons_zero, len_le0, len_le1, len_le2, len_le3, len_le4, len_le5, limN0, limN1, limN2, limN3, limN4, limN5, if_true, if_false, entry, List.map_cons, List.map_nil, List.replicate, WT, lcT, setT1, setT2, setT3, wipe1, wipe2, wipe3, Q.cno, Q.csome, List.set_cons_zero, List.set_cons_succ, cmpE, cmpN, cmpLtI, cmpLeI, cmpGtI, cmpGeI, cmpInL, cmpInT, cmpNiL, cmpNiT, addI, subI, lenL, lenT, tupL, lstT, lstL, isiLL, isiTT, isiBB, isiII, isiSS, W_nil, W_set, W_setT, W_newL, W_newD, W_app, W_ext, W_dput, W_expr, W_ret, W_retN, W_raise, W_ite, W_frz, setK_ok, setK_err, oevK_some, setTK_ok, setTK_err, ifK_true, newLK_ok, appK_is, appK2_ok, appK2_err, extK_is, extK2_ok, extK2_err, dputK_ok, dputK_err, dputK2_is, dputK3_ok, exprK_ok, exprK_err, retK_ok, retK_err, iteK_ok, iteK_err, tstK_true, tstK_false, tstK_not, tstK_dec, frzK_is, slot, List.cons_append, List.nil_append, retO, eq_str, o2, ne, decide_true, decide_false, sm, r0]
    · simp only [d_groups, Q.var, Q.int, Q.neg, Q.str, Q.bl, Q.non, Q.glob, Q.tup, Q.lst, Q.bin, Q.cmp, Q.chain, Q.inG, Q.nt, Q.bop, Q.ite, Q.ix, Q.sl, Q.tl0, Q.rev, Q.disp, Q.call, Q.bi1, Q.mn2, Q.isi, Q.cnt, Q.tupRg, Q.lstRg, Q.lenO, Q.ixO, Q.nil, Q.cons, Q.b1, Q.and2, Q.or2, Q.no, Q.some_, Q.seq, Q.rng1, Q.rng2, Q.enm, bind_ok, bind_err, rofO_some, Option.map_some, truth, List.getElem?_cons_succ, List.getElem?_cons_zero, len_le0, len_le1, len_le2, len_le3, len_le4, len_le5, limN0, limN1, limN2, limN3, limN4, limN5, if_true, if_false, entry, List.map_cons, List.map_nil, List.replicate, WT, lcT, setT1, setT2, setT3, wipe1, wipe2, wipe3, Q.cno, Q.csome, List.set_cons_zero, List.set_cons_succ, cmpE, cmpN, cmpLtI, cmpLeI, cmpGtI, cmpGeI, cmpInL, cmpInT, cmpNiL, cmpNiT, addI, subI, lenL, lenT, tupL, lstT, lstL, isiLL, isiTT, isiBB, isiII, isiSS, W_nil, W_set, W_setT, W_newL, W_newD, W_app, W_ext, W_dput, W_expr, W_ret, W_retN, W_raise, W_ite, W_frz, setK_ok, setK_err, oevK_some, setTK_ok, setTK_err, ifK_true, newLK_ok, appK_is, appK2_ok, appK2_err, extK_is, extK2_ok, extK2_err, dputK_ok, dputK_err, dputK2_is, dputK3_ok, exprK_ok, exprK_err, retK_ok, retK_err, iteK_ok, iteK_err, tstK_true, tstK_false, tstK_not, tstK_dec, frzK_is, slot, List.cons_append, List.nil_append, retO, eq_str, o1, o2, decide_false]
      refine W_fold (enc := fun (j : Nat) => .int j) (fun (acc : List (List Int)) (j : Option Sl) => [some (.sh (.int m)), some (.sh (.str (Str.ofString order))), some (.sh (.list (acc.map iT))), j, none]) (fun acc (h : Nat) => acc ++ acc.map fun gr => gr ++ [(h : Int)]) (fun i acc => acc = subsL i) (List.range m) [[]] none
        (by simp only [Q.var, Q.int, Q.neg, Q.str, Q.bl, Q.non, Q.glob, Q.tup, Q.lst, Q.bin, Q.cmp, Q.chain, Q.inG, Q.nt, Q.bop, Q.ite, Q.ix, Q.sl, Q.tl0, Q.rev, Q.disp, Q.call, Q.bi1, Q.mn2, Q.isi, Q.cnt, Q.tupRg, Q.lstRg, Q.lenO, Q.ixO, Q.nil, Q.cons, Q.b1, Q.and2, Q.or2, Q.no, Q.some_, Q.seq, Q.rng1, Q.rng2, Q.enm, bind_ok, bind_err, rofO_some, Option.map_some, truth, List.getElem?_cons_succ, List.getElem?_cons_zero, len_le0, len_le1, len_le2, len_le3, len_le4, len_le5, limN0, limN1, limN2, limN3, limN4, limN5, if_true, if_false, entry, List.map_cons, List.map_nil, List.replicate, WT, lcT, setT1, setT2, setT3, wipe1, wipe2, wipe3, Q.cno, Q.csome, List.set_cons_zero, List.set_cons_succ, cmpE, cmpN, cmpLtI, cmpLeI, cmpGtI, cmpGeI, cmpInL, cmpInT, cmpNiL, cmpNiT, addI, subI, lenL, lenT, tupL, lstT, lstL, isiLL, isiTT, isiBB, isiII, isiSS, sm, rangeD_nat]) rfl (fun i acc j x hx hI => ?_) (fun j hI => ?_)
      · have hi := at_lt hx
        rw [List.length_range] at hi
        rw [List.getElem?_range hi] at hx
        cases hx
        subst hI
        have sl := subs_len i
        have p2 : 2 ^ i ≤ 16 := Nat.le_trans (Nat.pow_le_pow_right (by decide) (show i ≤ 4 by omega)) (by decide)
        refine ⟨rfl, ?_⟩
        have key : ∀ a b : Option Sl, ev g (run g tab (k - 1)) c_groups_1 [a, b, some (.sh (.list ((subsL i).map iT))), some (.sh (.int i)), none] = .ok (.list (((subsL i).map fun gr => gr ++ [(i : Int)]).map iT)) := by
          intro a b
          refine lc_map (ea := iT) (eb := iT) _ (subsL i) (by simp only [Q.var, Q.int, Q.neg, Q.str, Q.bl, Q.non, Q.glob, Q.tup, Q.lst, Q.bin, Q.cmp, Q.chain, Q.inG, Q.nt, Q.bop, Q.ite, Q.ix, Q.sl, Q.tl0, Q.rev, Q.disp, Q.call, Q.bi1, Q.mn2, Q.isi, Q.cnt, Q.tupRg, Q.lstRg, Q.lenO, Q.ixO, Q.nil, Q.cons, Q.b1, Q.and2, Q.or2, Q.no, Q.some_, Q.seq, Q.rng1, Q.rng2, Q.enm, bind_ok, bind_err, rofO_some, Option.map_some, truth, List.getElem?_cons_succ, List.getElem?_cons_zero, len_le0, len_le1, len_le2, len_le3, len_le4, len_le5, limN0, limN1, limN2, limN3, limN4, limN5, if_true, if_false, entry, List.map_cons, List.map_nil, List.replicate, WT, lcT, setT1, setT2, setT3, wipe1, wipe2, wipe3, Q.cno, Q.csome, List.set_cons_zero, List.set_cons_succ, cmpE, cmpN, cmpLtI, cmpLeI, cmpGtI, cmpGeI, cmpInL, cmpInT, cmpNiL, cmpNiT, addI, subI, lenL, lenT, tupL, lstT, lstL, isiLL, isiTT, isiBB, isiII, isiSS]) (lim_of (by omega)) fun gr hg => ?_
          simp only [Q.var, Q.int, Q.neg, Q.str, Q.bl, Q.non, Q.glob, Q.tup, Q.lst, Q.bin, Q.cmp, Q.chain, Q.inG, Q.nt, Q.bop, Q.ite, Q.ix, Q.sl, Q.tl0, Q.rev, Q.disp, Q.call, Q.bi1, Q.mn2, Q.isi, Q.cnt, Q.tupRg, Q.lstRg, Q.lenO, Q.ixO, Q.nil, Q.cons, Q.b1, Q.and2, Q.or2, Q.no, Q.some_, Q.seq, Q.rng1, Q.rng2, Q.enm, bind_ok, bind_err, rofO_some, Option.map_some, truth, List.getElem?_cons_succ, List.getElem?_cons_zero, len_le0, len_le1, len_le2, len_le3, len_le4, len_le5, limN0, limN1, limN2, limN3, limN4, limN5, if_true, if_false, entry, List.map_cons, List.map_nil, List.replicate, WT, lcT, setT1, setT2, setT3, wipe1, wipe2, wipe3, Q.cno, Q.csome, List.set_cons_zero, List.set_cons_succ, cmpE, cmpN, cmpLtI, cmpLeI, cmpGtI, cmpGeI, cmpInL, cmpInT, cmpNiL, cmpNiT, addI, subI, lenL, lenT, tupL, lstT, lstL, isiLL, isiTT, isiBB, isiII, isiSS, cat_one gr (i : Int) (by have := sl.2 gr hg; omega)]
        have cat := cat_lists iT (subsL i) ((subsL i).map fun gr => gr ++ [(i : Int)]) (by rw [List.length_map]; omega)
        simp only [b_groups_0, Q.var, Q.int, Q.neg, Q.str, Q.bl, Q.non, Q.glob, Q.tup, Q.lst, Q.bin, Q.cmp, Q.chain, Q.inG, Q.nt, Q.bop, Q.ite, Q.ix, Q.sl, Q.tl0, Q.rev, Q.disp, Q.call, Q.bi1, Q.mn2, Q.isi, Q.cnt, Q.tupRg, Q.lstRg, Q.lenO, Q.ixO, Q.nil, Q.cons, Q.b1, Q.and2, Q.or2, Q.no, Q.some_, Q.seq, Q.rng1, Q.rng2, Q.enm, bind_ok, bind_err, rofO_some, Option.map_some, truth, List.getElem?_cons_succ, List.getElem?_cons_zero, len_le0, len_le1, len_le2, len_le3, len_le4, len_le5, limN0, limN1, limN2, limN3, limN4, limN5, if_true, if_false, entry, List.map_cons, List.map_nil, List.replicate, WT, lcT, setT1, setT2, setT3, wipe1, wipe2, wipe3, Q.cno, Q.csome, List.set_cons_zero, List.set_cons_succ, cmpE, cmpN, cmpLtI, cmpLeI, cmpGtI, cmpGeI, cmpInL, cmpInT, cmpNiL, cmpNiT, addI, subI, lenL, lenT, tupL, lstT, lstL, isiLL, isiTT, isiBB, isiII, isiSS, W_nil, W_set, W_setT, W_newL, W_newD, W_app, W_ext, W_dput, W_expr, W_ret, W_retN, W_raise, W_ite, W_frz, setK_ok, setK_err, oevK_some, setTK_ok, setTK_err, ifK_true, newLK_ok, appK_is, appK2_ok, appK2_err, extK_is, extK2_ok, extK2_err, dputK_ok, dputK_err, dputK2_is, dputK3_ok, exprK_ok, exprK_err, retK_ok, retK_err, iteK_ok, iteK_err, tstK_true, tstK_false, tstK_not, tstK_dec, frzK_is, slot, List.cons_append, List.nil_append, retO, key, cat]
        exact ⟨_, .inl rfl⟩
      · rw [subs_fold]
        have sl := subs_len m
        have p2 : 2 ^ m ≤ 16 := Nat.le_trans (Nat.pow_le_pow_right (by decide) hm) (by decide)
        have key : ∀ a b c : Option Sl, ev g (run g tab (k - 1)) c_groups_2 [a, b, some (.sh (.list ((subsL m).map iT))), c, none] = .ok (.list ((((subsL m).filter fun gr => !gr.isEmpty).map id).map iT)) := by
          intro a b c
          refine lc_filter (ea := iT) (eb := iT) _ _ (subsL m) (by simp only [Q.var, Q.int, Q.neg, Q.str, Q.bl, Q.non, Q.glob, Q.tup, Q.lst, Q.bin, Q.cmp, Q.chain, Q.inG, Q.nt, Q.bop, Q.ite, Q.ix, Q.sl, Q.tl0, Q.rev, Q.disp, Q.call, Q.bi1, Q.mn2, Q.isi, Q.cnt, Q.tupRg, Q.lstRg, Q.lenO, Q.ixO, Q.nil, Q.cons, Q.b1, Q.and2, Q.or2, Q.no, Q.some_, Q.seq, Q.rng1, Q.rng2, Q.enm, bind_ok, bind_err, rofO_some, Option.map_some, truth, List.getElem?_cons_succ, List.getElem?_cons_zero, len_le0, len_le1, len_le2, len_le3, len_le4, len_le5, limN0, limN1, limN2, limN3, limN4, limN5, if_true, if_false, entry, List.map_cons, List.map_nil, List.replicate, WT, lcT, setT1, setT2, setT3, wipe1, wipe2, wipe3, Q.cno, Q.csome, List.set_cons_zero, List.set_cons_succ, cmpE, cmpN, cmpLtI, cmpLeI, cmpGtI, cmpGeI, cmpInL, cmpInT, cmpNiL, cmpNiT, addI, subI, lenL, lenT, tupL, lstT, lstL, isiLL, isiTT, isiBB, isiII, isiSS]) (lim_of (by omega)) fun gr hg => ?_
          have z : (gr.map PyData.int).isEmpty = gr.isEmpty := by cases gr <;> rfl
          simp only [Q.var, Q.int, Q.neg, Q.str, Q.bl, Q.non, Q.glob, Q.tup, Q.lst, Q.bin, Q.cmp, Q.chain, Q.inG, Q.nt, Q.bop, Q.ite, Q.ix, Q.sl, Q.tl0, Q.rev, Q.disp, Q.call, Q.bi1, Q.mn2, Q.isi, Q.cnt, Q.tupRg, Q.lstRg, Q.lenO, Q.ixO, Q.nil, Q.cons, Q.b1, Q.and2, Q.or2, Q.no, Q.some_, Q.seq, Q.rng1, Q.rng2, Q.enm, bind_ok, bind_err, rofO_some, Option.map_some, truth, List.getElem?_cons_succ, List.getElem?_cons_zero, len_le0, len_le1, len_le2, len_le3, len_le4, len_le5, limN0, limN1, limN2, limN3, limN4, limN5, if_true, if_false, entry, List.map_cons, List.map_nil, List.replicate, WT, lcT, setT1, setT2, setT3, wipe1, wipe2, wipe3, Q.cno, Q.csome, List.set_cons_zero, List.set_cons_succ, cmpE, cmpN, cmpLtI, cmpLeI, cmpGtI, cmpGeI, cmpInL, cmpInT, cmpNiL, cmpNiT, addI, subI, lenL, lenT, tupL, lstT, lstL, isiLL, isiTT, isiBB, isiII, isiSS, z, id]
        rw [List.map_id] at key
        simp only [Q.var, Q.int, Q.neg, Q.str, Q.bl, Q.non, Q.glob, Q.tup, Q.lst, Q.bin, Q.cmp, Q.chain, Q.inG, Q.nt, Q.bop, Q.ite, Q.ix, Q.sl, Q.tl0, Q.rev, Q.disp, Q.call, Q.bi1, Q.mn2, Q.isi, Q.cnt, Q.tupRg, Q.lstRg, Q.lenO, Q.ixO, Q.nil, Q.cons, Q.b1, Q.and2, Q.or2, Q.no, Q.some_, Q.seq, Q.rng1, Q.rng2, Q.enm, bind_ok, bind_err, rofO_some, Option.map_some, truth, List.getElem?_cons_succ, List.getElem?_cons_zero, len_le0, len_le1, len_le2, len_le3, len_le4, len_le5, limN0, limN1, limN2, limN3, limN4, limN5, if_true, if_false, entry, List.map_cons, List.map_nil, List.replicate, WT, lcT, setT1, setT2, setT3, wipe1, wipe2, wipe3, Q.cno, Q.csome, List.set_cons_zero, List.set_cons_succ, cmpE, cmpN, cmpLtI, cmpLeI, cmpGtI, cmpGeI, cmpInL, cmpInT, cmpNiL, cmpNiT, addI, subI, lenL, lenT, tupL, lstT, lstL, isiLL, isiTT, isiBB, isiII, isiSS, W_nil, W_set, W_setT, W_newL, W_newD, W_app, W_ext, W_dput, W_expr, W_ret, W_retN, W_raise, W_ite, W_frz, setK_ok, setK_err, oevK_some, setTK_ok, setTK_err, ifK_true, newLK_ok, appK_is, appK2_ok, appK2_err, extK_is, extK2_ok, extK2_err, dputK_ok, dputK_err, dputK2_is, dputK3_ok, exprK_ok, exprK_err, retK_ok, retK_err, iteK_ok, iteK_err, tstK_true, tstK_false, tstK_not, tstK_dec, frzK_is, slot, List.cons_append, List.nil_append, retO, key]
end
end Rh

set_option Elab.async false
set_option linter.all false
set_option maxRecDepth 100000
set_option maxHeartbeats 2000000
/-! What the core code computes: acts, all together. -/
namespace Rh
open PySem (PyData Str)
open Enc (e)
open Ord' (lt ok)
open Cd
/-- where hand h may be behind an act of the group -/
def goes (n : Nat) (s : String) (rs : List (List Int × String)) (st gr : List Int) (h : Nat) : List Int := if (h : Int) ∈ gr then wishL n s rs st (st.getD h 0) else [st.getD h 0]
theorem goes_len (n : Nat) (s : String) (rs : List (List Int × String)) (st gr : List Int) (h : Nat) : (goes n s rs st gr h).length ≤ 2 := by
  unfold goes
  split
  · exact wish_len n s rs st _
  · simp
theorem moved_is (n : Nat) (s : String) (rs : List (List Int × String)) (st gr : List Int) : movedL n s rs st gr = (List.range st.length).foldl (fun acc h => bothL acc (goes n s rs st gr h)) [[]] := rfl
/-- behind i hands -/
def movedN (n : Nat) (s : String) (rs : List (List Int × String)) (st gr : List Int) (i : Nat) : List (List Int) := (List.range i).foldl (fun acc h => bothL acc (goes n s rs st gr h)) [[]]
theorem movedN_succ (n : Nat) (s : String) (rs : List (List Int × String)) (st gr : List Int) (i : Nat) : movedN n s rs st gr (i + 1) = bothL (movedN n s rs st gr i) (goes n s rs st gr i) := by
  unfold movedN
  rw [List.range_succ, List.foldl_append]
  rfl
theorem movedN_len (n : Nat) (s : String) (rs : List (List Int × String)) (st gr : List Int) : ∀ i, (movedN n s rs st gr i).length ≤ 2 ^ i ∧ ∀ x ∈ movedN n s rs st gr i, x.length = i
  | 0 => by simp [movedN]
  | i + 1 => by
    obtain ⟨h1, h2⟩ := movedN_len n s rs st gr i
    rw [movedN_succ]
    refine ⟨?_, fun x hx => ?_⟩
    · rw [both_len, Nat.pow_succ]
      exact Nat.mul_le_mul h1 (goes_len n s rs st gr i)
    · unfold bothL at hx
      obtain ⟨q, hq, hx⟩ := List.mem_flatMap.mp hx
      obtain ⟨p, _, rfl⟩ := List.mem_map.mp hx
      rw [List.length_append, h2 q hq]
      rfl
/-- a stand behind: each hand where it may be -/
theorem movedN_mem (n : Nat) (s : String) (rs : List (List Int × String)) (st gr : List Int) : ∀ (i : Nat) (x : List Int), x ∈ movedN n s rs st gr i ↔ x.length = i ∧ ∀ h, h < i → x.getD h 0 ∈ goes n s rs st gr h
  | 0, x => by simp [movedN, List.length_eq_zero_iff]
  | i + 1, x => by
    rw [movedN_succ]
    unfold bothL
    rw [List.mem_flatMap]
    constructor
    · rintro ⟨q, hq, hx⟩
      obtain ⟨p, hp, rfl⟩ := List.mem_map.mp hx
      obtain ⟨h1, h2⟩ := (movedN_mem n s rs st gr i q).mp hq
      refine ⟨by rw [List.length_append, h1]; rfl, fun h hh => ?_⟩
      rcases Nat.lt_or_ge h i with z | z
      · rw [List.getD_eq_getElem?_getD, List.getElem?_append_left (by omega), ← List.getD_eq_getElem?_getD]
        exact h2 h z
      · have e1 : h = i := by omega
        subst e1
        rw [List.getD_eq_getElem?_getD, List.getElem?_append_right (by omega), h1]
        simpa using hp
    · rintro ⟨h1, h2⟩
      have hne : x ≠ [] := fun z => by rw [z] at h1; cases h1
      have ex := List.dropLast_concat_getLast hne
      have hl : x.dropLast.length = i := by rw [List.length_dropLast, h1]; rfl
      refine ⟨x.dropLast, (movedN_mem n s rs st gr i _).mpr ⟨hl, fun h hh => ?_⟩, List.mem_map.mpr ⟨x.getLast hne, ?_, ex⟩⟩
      · have z := h2 h (by omega)
        rw [← ex, List.getD_eq_getElem?_getD, List.getElem?_append_left (by omega), ← List.getD_eq_getElem?_getD] at z
        exact z
      · have z := h2 i (by omega)
        rw [← ex, List.getD_eq_getElem?_getD, List.getElem?_append_right (by omega), hl] at z
        simpa using z
theorem moved_mem (n : Nat) (s : String) (rs : List (List Int × String)) (st gr x : List Int) : x ∈ movedL n s rs st gr ↔ x.length = st.length ∧ ∀ h, h < st.length → x.getD h 0 ∈ goes n s rs st gr h := movedN_mem n s rs st gr st.length x
section
variable {g : Str → Option PyData} {tab : Str → Option Df} {k : Nat}
structure BaseA (g : Str → Option PyData) (tab : Str → Option Df) : Prop extends BaseW g tab where
  os : g (Str.ofString "ORDERS") = some (.tuple [.str (Str.ofString "one"), .str (Str.ofString "some"), .str (Str.ofString "all")])
  look_order : tab (Str.ofString "look_order") = some d_look_order
  groups : tab (Str.ofString "groups") = some d_groups
  moved_by : tab (Str.ofString "moved_by") = some d_moved_by
  both : tab (Str.ofString "both") = some d_both
  acts_from : tab (Str.ofString "acts_from") = some d_acts_from
  look_acts : tab (Str.ofString "look_acts") = some d_look_acts
theorem in_orders (x : String) (h : x ∈ orders) : inD (.str (Str.ofString x)) [.str (Str.ofString "one"), .str (Str.ofString "some"), .str (Str.ofString "all")] = some true := by
  have z := in_list (α := String) x orders
  rw [decide_eq_true h] at z
  exact z
theorem look_order_ok (B : BaseA g tab) (hk : 1 ≤ k) {x : String} (h : x ∈ orders) : run g tab k (Str.ofString "look_order") [.str (Str.ofString x)] = .ok .none := by
  refine run_W B.look_order hk rfl ?_
  simp only [d_look_order, Q.var, Q.int, Q.neg, Q.str, Q.bl, Q.non, Q.glob, Q.tup, Q.lst, Q.bin, Q.cmp, Q.chain, Q.inG, Q.nt, Q.bop, Q.ite, Q.ix, Q.sl, Q.tl0, Q.rev, Q.disp, Q.call, Q.bi1, Q.mn2, Q.isi, Q.cnt, Q.tupRg, Q.lstRg, Q.lenO, Q.ixO, Q.nil, Q.cons, Q.b1, Q.and2, Q.or2, Q.no, Q.some_, Q.seq, Q.rng1, Q.rng2, Q.enm, bind_ok, bind_err, rofO_some, Option.map_some, truth, List.getElem?_cons_succ, List.getElem?_cons_zero, len_le0, len_le1, len_le2, len_le3, len_le4, len_le5, limN0, limN1, limN2, limN3, limN4, limN5, if_true, if_false, entry, List.map_cons, List.map_nil, List.replicate, WT, lcT, setT1, setT2, setT3, wipe1, wipe2, wipe3, Q.cno, Q.csome, List.set_cons_zero, List.set_cons_succ, cmpE, cmpN, cmpLtI, cmpLeI, cmpGtI, cmpGeI, cmpInL, cmpInT, cmpNiL, cmpNiT, addI, subI, lenL, lenT, tupL, lstT, lstL, isiLL, isiTT, isiBB, isiII, isiSS, W_nil, W_set, W_setT, W_newL, W_newD, W_app, W_ext, W_dput, W_expr, W_ret, W_retN, W_raise, W_ite, W_frz, setK_ok, setK_err, oevK_some, setTK_ok, setTK_err, ifK_true, newLK_ok, appK_is, appK2_ok, appK2_err, extK_is, extK2_ok, extK2_err, dputK_ok, dputK_err, dputK2_is, dputK3_ok, exprK_ok, exprK_err, retK_ok, retK_err, iteK_ok, iteK_err, tstK_true, tstK_false, tstK_not, tstK_dec, frzK_is, slot, List.cons_append, List.nil_append, retO, B.os, in_orders x h, Bool.not_true, Bool.false_eq_true, if_true]
theorem look_acts_ok (B : BaseA g tab) (hk : 6 ≤ k) {n : Nat} {s : String} {rs : List (List Int × String)} (h : IsB n s rs) {st : List Int} (hs : IsS n st) {order : String} (ho : order ∈ orders) : run g tab k (Str.ofString "look_acts") [bookT n s rs, iT st, .str (Str.ofString order)] = .ok .none := by
  refine run_W B.look_acts (by omega) rfl ?_
  have e1 := look_ok' (g := g) (k := k - 1) B.toBase (by omega) h hs
  have e2 := look_order_ok (g := g) (k := k - 1) B (by omega) ho
  simp only [d_look_acts, Q.var, Q.int, Q.neg, Q.str, Q.bl, Q.non, Q.glob, Q.tup, Q.lst, Q.bin, Q.cmp, Q.chain, Q.inG, Q.nt, Q.bop, Q.ite, Q.ix, Q.sl, Q.tl0, Q.rev, Q.disp, Q.call, Q.bi1, Q.mn2, Q.isi, Q.cnt, Q.tupRg, Q.lstRg, Q.lenO, Q.ixO, Q.nil, Q.cons, Q.b1, Q.and2, Q.or2, Q.no, Q.some_, Q.seq, Q.rng1, Q.rng2, Q.enm, bind_ok, bind_err, rofO_some, Option.map_some, truth, List.getElem?_cons_succ, List.getElem?_cons_zero, len_le0, len_le1, len_le2, len_le3, len_le4, len_le5, limN0, limN1, limN2, limN3, limN4, limN5, if_true, if_false, entry, List.map_cons, List.map_nil, List.replicate, WT, lcT, setT1, setT2, setT3, wipe1, wipe2, wipe3, Q.cno, Q.csome, List.set_cons_zero, List.set_cons_succ, cmpE, cmpN, cmpLtI, cmpLeI, cmpGtI, cmpGeI, cmpInL, cmpInT, cmpNiL, cmpNiT, addI, subI, lenL, lenT, tupL, lstT, lstL, isiLL, isiTT, isiBB, isiII, isiSS, W_nil, W_set, W_setT, W_newL, W_newD, W_app, W_ext, W_dput, W_expr, W_ret, W_retN, W_raise, W_ite, W_frz, setK_ok, setK_err, oevK_some, setTK_ok, setTK_err, ifK_true, newLK_ok, appK_is, appK2_ok, appK2_err, extK_is, extK2_ok, extK2_err, dputK_ok, dputK_err, dputK2_is, dputK3_ok, exprK_ok, exprK_err, retK_ok, retK_err, iteK_ok, iteK_err, tstK_true, tstK_false, tstK_not, tstK_dec, frzK_is, slot, List.cons_append, List.nil_append, retO, e1, e2]
theorem moved_ok (B : BaseA g tab) (hk : 5 ≤ k) {n : Nat} (hn : 0 < n) (hn2 : n ≤ 1000) (s : String) (rs : List (List Int × String)) (st gr : List Int) (hs : st.length ≤ 4) :
    run g tab k (Str.ofString "moved_by") [bookT n s rs, iT st, iT gr] = .ok (.list ((movedL n s rs st gr).map iT)) := by
  refine run_W B.moved_by (by omega) rfl ?_
  simp only [d_moved_by, Q.var, Q.int, Q.neg, Q.str, Q.bl, Q.non, Q.glob, Q.tup, Q.lst, Q.bin, Q.cmp, Q.chain, Q.inG, Q.nt, Q.bop, Q.ite, Q.ix, Q.sl, Q.tl0, Q.rev, Q.disp, Q.call, Q.bi1, Q.mn2, Q.isi, Q.cnt, Q.tupRg, Q.lstRg, Q.lenO, Q.ixO, Q.nil, Q.cons, Q.b1, Q.and2, Q.or2, Q.no, Q.some_, Q.seq, Q.rng1, Q.rng2, Q.enm, bind_ok, bind_err, rofO_some, Option.map_some, truth, List.getElem?_cons_succ, List.getElem?_cons_zero, len_le0, len_le1, len_le2, len_le3, len_le4, len_le5, limN0, limN1, limN2, limN3, limN4, limN5, if_true, if_false, entry, List.map_cons, List.map_nil, List.replicate, WT, lcT, setT1, setT2, setT3, wipe1, wipe2, wipe3, Q.cno, Q.csome, List.set_cons_zero, List.set_cons_succ, cmpE, cmpN, cmpLtI, cmpLeI, cmpGtI, cmpGeI, cmpInL, cmpInT, cmpNiL, cmpNiT, addI, subI, lenL, lenT, tupL, lstT, lstL, isiLL, isiTT, isiBB, isiII, isiSS, W_nil, W_set, W_setT, W_newL, W_newD, W_app, W_ext, W_dput, W_expr, W_ret, W_retN, W_raise, W_ite, W_frz, setK_ok, setK_err, oevK_some, setTK_ok, setTK_err, ifK_true, newLK_ok, appK_is, appK2_ok, appK2_err, extK_is, extK2_ok, extK2_err, dputK_ok, dputK_err, dputK2_is, dputK3_ok, exprK_ok, exprK_err, retK_ok, retK_err, iteK_ok, iteK_err, tstK_true, tstK_false, tstK_not, tstK_dec, frzK_is, slot, List.cons_append, List.nil_append, retO]
  refine W_fold (enc := fun (h : Nat) => PyData.tuple [.int h, .int (st.getD h 0)]) (fun (acc : List (List Int)) (j : Option Sl × Option Sl × Option Sl) => [some (.sh (bookT n s rs)), some (.sh (iT st)), some (.sh (iT gr)), some (.sh (.list (acc.map iT))), j.1, j.2.1, j.2.2])
    (fun acc h => bothL acc (goes n s rs st gr h)) (fun i acc => acc = movedN n s rs st gr i) (List.range st.length) [[]] (none, none, none) (by simp only [Q.var, Q.int, Q.neg, Q.str, Q.bl, Q.non, Q.glob, Q.tup, Q.lst, Q.bin, Q.cmp, Q.chain, Q.inG, Q.nt, Q.bop, Q.ite, Q.ix, Q.sl, Q.tl0, Q.rev, Q.disp, Q.call, Q.bi1, Q.mn2, Q.isi, Q.cnt, Q.tupRg, Q.lstRg, Q.lenO, Q.ixO, Q.nil, Q.cons, Q.b1, Q.and2, Q.or2, Q.no, Q.some_, Q.seq, Q.rng1, Q.rng2, Q.enm, bind_ok, bind_err, rofO_some, Option.map_some, truth, List.getElem?_cons_succ, List.getElem?_cons_zero, len_le0, len_le1, len_le2, len_le3, len_le4, len_le5, limN0, limN1, limN2, limN3, limN4, limN5, if_true, if_false, entry, List.map_cons, List.map_nil, List.replicate, WT, lcT, setT1, setT2, setT3, wipe1, wipe2, wipe3, Q.cno, Q.csome, List.set_cons_zero, List.set_cons_succ, cmpE, cmpN, cmpLtI, cmpLeI, cmpGtI, cmpGeI, cmpInL, cmpInT, cmpNiL, cmpNiT, addI, subI, lenL, lenT, tupL, lstT, lstL, isiLL, isiTT, isiBB, isiII, isiSS, enum_range]) rfl (fun i acc j x hx hI => ?_) (fun j hI => ?_)
  · have hi := at_lt hx
    rw [List.length_range] at hi
    rw [List.getElem?_range hi] at hx
    cases hx
    subst hI
    obtain ⟨h1, h2⟩ := movedN_len n s rs st gr i
    have p2 : 2 ^ i ≤ 16 := Nat.le_trans (Nat.pow_le_pow_right (by decide) (show i ≤ 4 by omega)) (by decide)
    refine ⟨(movedN_succ n s rs st gr i).symm, ?_⟩
    have e1 := wish_ok (g := g) (k := k - 1) B.toBaseW (by omega) hn hn2 s rs st (st.getD i 0)
    have e2 := both_ok (g := g) (k := k - 1) B.both (by omega) (movedN n s rs st gr i) (goes n s rs st gr i) (fun x hx => by rw [h2 x hx]; omega) (by omega) (by have := goes_len n s rs st gr i; omega)
    unfold goes at e2 ⊢
    by_cases c : (i : Int) ∈ gr
    · rw [if_pos c] at e2 ⊢
      simp only [b_moved_by_0, Q.var, Q.int, Q.neg, Q.str, Q.bl, Q.non, Q.glob, Q.tup, Q.lst, Q.bin, Q.cmp, Q.chain, Q.inG, Q.nt, Q.bop, Q.ite, Q.ix, Q.sl, Q.tl0, Q.rev, Q.disp, Q.call, Q.bi1, Q.mn2, Q.isi, Q.cnt, Q.tupRg, Q.lstRg, Q.lenO, Q.ixO, Q.nil, Q.cons, Q.b1, Q.and2, Q.or2, Q.no, Q.some_, Q.seq, Q.rng1, Q.rng2, Q.enm, bind_ok, bind_err, rofO_some, Option.map_some, truth, List.getElem?_cons_succ, List.getElem?_cons_zero, len_le0, len_le1, len_le2, len_le3, len_le4, len_le5, limN0, limN1, limN2, limN3, limN4, limN5, if_true, if_false, entry, List.map_cons, List.map_nil, List.replicate, WT, lcT, setT1, setT2, setT3, wipe1, wipe2, wipe3, Q.cno, Q.csome, List.set_cons_zero, List.set_cons_succ, cmpE, cmpN, cmpLtI, cmpLeI, cmpGtI, cmpGeI, cmpInL, cmpInT, cmpNiL, cmpNiT, addI, subI, lenL, lenT, tupL, lstT, lstL, isiLL, isiTT, isiBB, isiII, isiSS, W_nil, W_set, W_setT, W_newL, W_newD, W_app, W_ext, W_dput, W_expr, W_ret, W_retN, W_raise, W_ite, W_frz, setK_ok, setK_err, oevK_some, setTK_ok, setTK_err, ifK_true, newLK_ok, appK_is, appK2_ok, appK2_err, extK_is, extK2_ok, extK2_err, dputK_ok, dputK_err, dputK2_is, dputK3_ok, exprK_ok, exprK_err, retK_ok, retK_err, iteK_ok, iteK_err, tstK_true, tstK_false, tstK_not, tstK_dec, frzK_is, slot, List.cons_append, List.nil_append, retO, in_ints, c, decide_true, e1, e2]
      exact ⟨(_, _, _), .inl rfl⟩
    · rw [if_neg c] at e2 ⊢
      simp only [List.map_cons, List.map_nil] at e2
      simp only [b_moved_by_0, Q.var, Q.int, Q.neg, Q.str, Q.bl, Q.non, Q.glob, Q.tup, Q.lst, Q.bin, Q.cmp, Q.chain, Q.inG, Q.nt, Q.bop, Q.ite, Q.ix, Q.sl, Q.tl0, Q.rev, Q.disp, Q.call, Q.bi1, Q.mn2, Q.isi, Q.cnt, Q.tupRg, Q.lstRg, Q.lenO, Q.ixO, Q.nil, Q.cons, Q.b1, Q.and2, Q.or2, Q.no, Q.some_, Q.seq, Q.rng1, Q.rng2, Q.enm, bind_ok, bind_err, rofO_some, Option.map_some, truth, List.getElem?_cons_succ, List.getElem?_cons_zero, len_le0, len_le1, len_le2, len_le3, len_le4, len_le5, limN0, limN1, limN2, limN3, limN4, limN5, if_true, if_false, entry, List.map_cons, List.map_nil, List.replicate, WT, lcT, setT1, setT2, setT3, wipe1, wipe2, wipe3, Q.cno, Q.csome, List.set_cons_zero, List.set_cons_succ, cmpE, cmpN, cmpLtI, cmpLeI, cmpGtI, cmpGeI, cmpInL, cmpInT, cmpNiL, cmpNiT, addI, subI, lenL, lenT, tupL, lstT, lstL, isiLL, isiTT, isiBB, isiII, isiSS, W_nil, W_set, W_setT, W_newL, W_newD, W_app, W_ext, W_dput, W_expr, W_ret, W_retN, W_raise, W_ite, W_frz, setK_ok, setK_err, oevK_some, setTK_ok, setTK_err, ifK_true, newLK_ok, appK_is, appK2_ok, appK2_err, extK_is, extK2_ok, extK2_err, dputK_ok, dputK_err, dputK2_is, dputK3_ok, exprK_ok, exprK_err, retK_ok, retK_err, iteK_ok, iteK_err, tstK_true, tstK_false, tstK_not, tstK_dec, frzK_is, slot, List.cons_append, List.nil_append, retO, in_ints, c, decide_false, e2]
      exact ⟨(_, _, _), .inl rfl⟩
  · simp only [Q.var, Q.int, Q.neg, Q.str, Q.bl, Q.non, Q.glob, Q.tup, Q.lst, Q.bin, Q.cmp, Q.chain, Q.inG, Q.nt, Q.bop, Q.ite, Q.ix, Q.sl, Q.tl0, Q.rev, Q.disp, Q.call, Q.bi1, Q.mn2, Q.isi, Q.cnt, Q.tupRg, Q.lstRg, Q.lenO, Q.ixO, Q.nil, Q.cons, Q.b1, Q.and2, Q.or2, Q.no, Q.some_, Q.seq, Q.rng1, Q.rng2, Q.enm, bind_ok, bind_err, rofO_some, Option.map_some, truth, List.getElem?_cons_succ, List.getElem?_cons_zero, len_le0, len_le1, len_le2, len_le3, len_le4, len_le5, limN0, limN1, limN2, limN3, limN4, limN5, if_true, if_false, entry, List.map_cons, List.map_nil, List.replicate, WT, lcT, setT1, setT2, setT3, wipe1, wipe2, wipe3, Q.cno, Q.csome, List.set_cons_zero, List.set_cons_succ, cmpE, cmpN, cmpLtI, cmpLeI, cmpGtI, cmpGeI, cmpInL, cmpInT, cmpNiL, cmpNiT, addI, subI, lenL, lenT, tupL, lstT, lstL, isiLL, isiTT, isiBB, isiII, isiSS, W_nil, W_set, W_setT, W_newL, W_newD, W_app, W_ext, W_dput, W_expr, W_ret, W_retN, W_raise, W_ite, W_frz, setK_ok, setK_err, oevK_some, setTK_ok, setTK_err, ifK_true, newLK_ok, appK_is, appK2_ok, appK2_err, extK_is, extK2_ok, extK2_err, dputK_ok, dputK_err, dputK2_is, dputK3_ok, exprK_ok, exprK_err, retK_ok, retK_err, iteK_ok, iteK_err, tstK_true, tstK_false, tstK_not, tstK_dec, frzK_is, slot, List.cons_append, List.nil_append, retO]
    rfl
/-- the inner loop: stands behind one group -/
theorem akeys_len (n : Nat) (s : String) (rs : List (List Int × String)) (st : List Int) (hs : st.length ≤ 4) : ∀ (gs : List (List Int)) (acc : List (List Int × List Int)), (actKeys n s rs st gs acc).length ≤ acc.length + gs.length * 16
  | [], acc => by simp [actKeys]
  | gr :: gs, acc => by
    have ih := akeys_len n s rs st hs gs ((movedL n s rs st gr).foldl (fun acc o => addP acc (gr, o)) acc)
    have h1 := addAll_len (fun o => (gr, o)) (movedL n s rs st gr) acc
    have h2 := (movedN_len n s rs st gr st.length).1
    have p2 : 2 ^ st.length ≤ 16 := Nat.le_trans (Nat.pow_le_pow_right (by decide) hs) (by decide)
    have h3 : (movedL n s rs st gr).length ≤ 16 := Nat.le_trans h2 p2
    unfold actKeys at ih ⊢
    rw [List.foldl_cons, List.length_cons, Nat.succ_mul]
    omega
theorem acts_from_ok (B : BaseA g tab) (hk : 6 ≤ k) {n : Nat} (hn : 0 < n) (hn2 : n ≤ 1000) (s : String) (rs : List (List Int × String)) (st : List Int) (h1 : 1 ≤ st.length) (h4 : st.length ≤ 4) {order : String} (ho : order ∈ orders) :
    run g tab k (Str.ofString "acts_from") [bookT n s rs, iT st, .str (Str.ofString order)] = .ok (.list ((actsL n s rs order st).map e)) := by
  refine run_W B.acts_from (by omega) rfl ?_
  have hm : st.length ∈ [1, 2, 3, 4] := by
    have : st.length = 1 ∨ st.length = 2 ∨ st.length = 3 ∨ st.length = 4 := by omega
    rcases this with z | z | z | z <;> rw [z] <;> decide
  have hg15 := (groups_some st.length hm order ho).1
  have e1 := groups_ok (g := g) (k := k - 1) B.groups (by omega) st.length h4 order
  have e2 := fun gr => moved_ok (g := g) (k := k - 1) B (by omega) hn hn2 s rs st gr h4
  have hl : ((st.map PyData.int).length : Int) = (st.length : Int) := by rw [List.length_map]
  unfold actsL
  generalize hgs : groupsL st.length order = gs at hg15 e1 ⊢
  simp only [d_acts_from, Q.var, Q.int, Q.neg, Q.str, Q.bl, Q.non, Q.glob, Q.tup, Q.lst, Q.bin, Q.cmp, Q.chain, Q.inG, Q.nt, Q.bop, Q.ite, Q.ix, Q.sl, Q.tl0, Q.rev, Q.disp, Q.call, Q.bi1, Q.mn2, Q.isi, Q.cnt, Q.tupRg, Q.lstRg, Q.lenO, Q.ixO, Q.nil, Q.cons, Q.b1, Q.and2, Q.or2, Q.no, Q.some_, Q.seq, Q.rng1, Q.rng2, Q.enm, bind_ok, bind_err, rofO_some, Option.map_some, truth, List.getElem?_cons_succ, List.getElem?_cons_zero, len_le0, len_le1, len_le2, len_le3, len_le4, len_le5, limN0, limN1, limN2, limN3, limN4, limN5, if_true, if_false, entry, List.map_cons, List.map_nil, List.replicate, WT, lcT, setT1, setT2, setT3, wipe1, wipe2, wipe3, Q.cno, Q.csome, List.set_cons_zero, List.set_cons_succ, cmpE, cmpN, cmpLtI, cmpLeI, cmpGtI, cmpGeI, cmpInL, cmpInT, cmpNiL, cmpNiT, addI, subI, lenL, lenT, tupL, lstT, lstL, isiLL, isiTT, isiBB, isiII, isiSS, W_nil, W_set, W_setT, W_newL, W_newD, W_app, W_ext, W_dput, W_expr, W_ret, W_retN, W_raise, W_ite, W_frz, setK_ok, setK_err, oevK_some, setTK_ok, setTK_err, ifK_true, newLK_ok, appK_is, appK2_ok, appK2_err, extK_is, extK2_ok, extK2_err, dputK_ok, dputK_err, dputK2_is, dputK3_ok, exprK_ok, exprK_err, retK_ok, retK_err, iteK_ok, iteK_err, tstK_true, tstK_false, tstK_not, tstK_dec, frzK_is, slot, List.cons_append, List.nil_append, retO]
  refine W_fold (enc := iT) (fun (acc : List (List Int × List Int)) (j : Option Sl × Option Sl) => [some (.sh (bookT n s rs)), some (.sh (iT st)), some (.sh (.str (Str.ofString order))), some (.own (.dict (dkT acc))), j.1, j.2])
    (fun acc gr => (movedL n s rs st gr).foldl (fun acc o => addP acc (gr, o)) acc) (fun i acc => acc.length ≤ i * 16) gs [] (none, none) (by simp only [Q.var, Q.int, Q.neg, Q.str, Q.bl, Q.non, Q.glob, Q.tup, Q.lst, Q.bin, Q.cmp, Q.chain, Q.inG, Q.nt, Q.bop, Q.ite, Q.ix, Q.sl, Q.tl0, Q.rev, Q.disp, Q.call, Q.bi1, Q.mn2, Q.isi, Q.cnt, Q.tupRg, Q.lstRg, Q.lenO, Q.ixO, Q.nil, Q.cons, Q.b1, Q.and2, Q.or2, Q.no, Q.some_, Q.seq, Q.rng1, Q.rng2, Q.enm, bind_ok, bind_err, rofO_some, Option.map_some, truth, List.getElem?_cons_succ, List.getElem?_cons_zero, len_le0, len_le1, len_le2, len_le3, len_le4, len_le5, limN0, limN1, limN2, limN3, limN4, limN5, if_true, if_false, entry, List.map_cons, List.map_nil, List.replicate, WT, lcT, setT1, setT2, setT3, wipe1, wipe2, wipe3, Q.cno, Q.csome, List.set_cons_zero, List.set_cons_succ, cmpE, cmpN, cmpLtI, cmpLeI, cmpGtI, cmpGeI, cmpInL, cmpInT, cmpNiL, cmpNiT, addI, subI, lenL, lenT, tupL, lstT, lstL, isiLL, isiTT, isiBB, isiII, isiSS, hl, e1]) (by simp) (fun i acc j gr hx hI => ?_) (fun j hI => ?_)
  · have hi := at_lt hx
    have hmv : (movedL n s rs st gr).length ≤ 16 := Nat.le_trans (movedN_len n s rs st gr st.length).1 (Nat.le_trans (Nat.pow_le_pow_right (by decide) h4) (by decide))
    have al := addAll_len (fun o => (gr, o)) (movedL n s rs st gr) acc
    refine ⟨by rw [Nat.succ_mul]; omega, ?_⟩
    simp only [b_acts_from_1, Q.var, Q.int, Q.neg, Q.str, Q.bl, Q.non, Q.glob, Q.tup, Q.lst, Q.bin, Q.cmp, Q.chain, Q.inG, Q.nt, Q.bop, Q.ite, Q.ix, Q.sl, Q.tl0, Q.rev, Q.disp, Q.call, Q.bi1, Q.mn2, Q.isi, Q.cnt, Q.tupRg, Q.lstRg, Q.lenO, Q.ixO, Q.nil, Q.cons, Q.b1, Q.and2, Q.or2, Q.no, Q.some_, Q.seq, Q.rng1, Q.rng2, Q.enm, bind_ok, bind_err, rofO_some, Option.map_some, truth, List.getElem?_cons_succ, List.getElem?_cons_zero, len_le0, len_le1, len_le2, len_le3, len_le4, len_le5, limN0, limN1, limN2, limN3, limN4, limN5, if_true, if_false, entry, List.map_cons, List.map_nil, List.replicate, WT, lcT, setT1, setT2, setT3, wipe1, wipe2, wipe3, Q.cno, Q.csome, List.set_cons_zero, List.set_cons_succ, cmpE, cmpN, cmpLtI, cmpLeI, cmpGtI, cmpGeI, cmpInL, cmpInT, cmpNiL, cmpNiT, addI, subI, lenL, lenT, tupL, lstT, lstL, isiLL, isiTT, isiBB, isiII, isiSS, W_nil, W_set, W_setT, W_newL, W_newD, W_app, W_ext, W_dput, W_expr, W_ret, W_retN, W_raise, W_ite, W_frz, setK_ok, setK_err, oevK_some, setTK_ok, setTK_err, ifK_true, newLK_ok, appK_is, appK2_ok, appK2_err, extK_is, extK2_ok, extK2_err, dputK_ok, dputK_err, dputK2_is, dputK3_ok, exprK_ok, exprK_err, retK_ok, retK_err, iteK_ok, iteK_err, tstK_true, tstK_false, tstK_not, tstK_dec, frzK_is, slot, List.cons_append, List.nil_append, retO]
    refine W_fold (enc := iT) (fun (acc : List (List Int × List Int)) (j : Option Sl) => [some (.sh (bookT n s rs)), some (.sh (iT st)), some (.sh (.str (Str.ofString order))), some (.own (.dict (dkT acc))), some (.sh (iT gr)), j])
      (fun acc o => addP acc (gr, o)) (fun i' acc' => acc'.length ≤ i * 16 + i') (movedL n s rs st gr) acc j.2 (by simp only [Q.var, Q.int, Q.neg, Q.str, Q.bl, Q.non, Q.glob, Q.tup, Q.lst, Q.bin, Q.cmp, Q.chain, Q.inG, Q.nt, Q.bop, Q.ite, Q.ix, Q.sl, Q.tl0, Q.rev, Q.disp, Q.call, Q.bi1, Q.mn2, Q.isi, Q.cnt, Q.tupRg, Q.lstRg, Q.lenO, Q.ixO, Q.nil, Q.cons, Q.b1, Q.and2, Q.or2, Q.no, Q.some_, Q.seq, Q.rng1, Q.rng2, Q.enm, bind_ok, bind_err, rofO_some, Option.map_some, truth, List.getElem?_cons_succ, List.getElem?_cons_zero, len_le0, len_le1, len_le2, len_le3, len_le4, len_le5, limN0, limN1, limN2, limN3, limN4, limN5, if_true, if_false, entry, List.map_cons, List.map_nil, List.replicate, WT, lcT, setT1, setT2, setT3, wipe1, wipe2, wipe3, Q.cno, Q.csome, List.set_cons_zero, List.set_cons_succ, cmpE, cmpN, cmpLtI, cmpLeI, cmpGtI, cmpGeI, cmpInL, cmpInT, cmpNiL, cmpNiT, addI, subI, lenL, lenT, tupL, lstT, lstL, isiLL, isiTT, isiBB, isiII, isiSS, e2]) (by omega) (fun i' acc' j' o hx' hI' => ?_) (fun j' _ => ?_)
    · have hi' := at_lt hx'
      have a1 := addP_len acc' (gr, o)
      refine ⟨by omega, ?_⟩
      have hkey : isKey (.tuple [iT gr, iT o]) = true ∧ (dkT acc').length < lim := ⟨Key'.key (gr, o), lim_lt' (by rw [List.length_map]; omega)⟩
      have dp : dput (.tuple [iT gr, iT o]) (.bool true) (dkT acc') = dkT (addP acc' (gr, o)) := dput_dk (gr, o) acc'
      simp only [b_acts_from_0, Q.var, Q.int, Q.neg, Q.str, Q.bl, Q.non, Q.glob, Q.tup, Q.lst, Q.bin, Q.cmp, Q.chain, Q.inG, Q.nt, Q.bop, Q.ite, Q.ix, Q.sl, Q.tl0, Q.rev, Q.disp, Q.call, Q.bi1, Q.mn2, Q.isi, Q.cnt, Q.tupRg, Q.lstRg, Q.lenO, Q.ixO, Q.nil, Q.cons, Q.b1, Q.and2, Q.or2, Q.no, Q.some_, Q.seq, Q.rng1, Q.rng2, Q.enm, bind_ok, bind_err, rofO_some, Option.map_some, truth, List.getElem?_cons_succ, List.getElem?_cons_zero, len_le0, len_le1, len_le2, len_le3, len_le4, len_le5, limN0, limN1, limN2, limN3, limN4, limN5, if_true, if_false, entry, List.map_cons, List.map_nil, List.replicate, WT, lcT, setT1, setT2, setT3, wipe1, wipe2, wipe3, Q.cno, Q.csome, List.set_cons_zero, List.set_cons_succ, cmpE, cmpN, cmpLtI, cmpLeI, cmpGtI, cmpGeI, cmpInL, cmpInT, cmpNiL, cmpNiT, addI, subI, lenL, lenT, tupL, lstT, lstL, isiLL, isiTT, isiBB, isiII, isiSS, W_nil, W_set, W_setT, W_newL, W_newD, W_app, W_ext, W_dput, W_expr, W_ret, W_retN, W_raise, W_ite, W_frz, setK_ok, setK_err, oevK_some, setTK_ok, setTK_err, ifK_true, newLK_ok, appK_is, appK2_ok, appK2_err, extK_is, extK2_ok, extK2_err, dputK_ok, dputK_err, dputK2_is, dputK3_ok, exprK_ok, exprK_err, retK_ok, retK_err, iteK_ok, iteK_err, tstK_true, tstK_false, tstK_not, tstK_dec, frzK_is, slot, List.cons_append, List.nil_append, retO, ifK_pos hkey, dp]
      exact ⟨_, .inl rfl⟩
    · simp only [Q.var, Q.int, Q.neg, Q.str, Q.bl, Q.non, Q.glob, Q.tup, Q.lst, Q.bin, Q.cmp, Q.chain, Q.inG, Q.nt, Q.bop, Q.ite, Q.ix, Q.sl, Q.tl0, Q.rev, Q.disp, Q.call, Q.bi1, Q.mn2, Q.isi, Q.cnt, Q.tupRg, Q.lstRg, Q.lenO, Q.ixO, Q.nil, Q.cons, Q.b1, Q.and2, Q.or2, Q.no, Q.some_, Q.seq, Q.rng1, Q.rng2, Q.enm, bind_ok, bind_err, rofO_some, Option.map_some, truth, List.getElem?_cons_succ, List.getElem?_cons_zero, len_le0, len_le1, len_le2, len_le3, len_le4, len_le5, limN0, limN1, limN2, limN3, limN4, limN5, if_true, if_false, entry, List.map_cons, List.map_nil, List.replicate, WT, lcT, setT1, setT2, setT3, wipe1, wipe2, wipe3, Q.cno, Q.csome, List.set_cons_zero, List.set_cons_succ, cmpE, cmpN, cmpLtI, cmpLeI, cmpGtI, cmpGeI, cmpInL, cmpInT, cmpNiL, cmpNiT, addI, subI, lenL, lenT, tupL, lstT, lstL, isiLL, isiTT, isiBB, isiII, isiSS, W_nil, W_set, W_setT, W_newL, W_newD, W_app, W_ext, W_dput, W_expr, W_ret, W_retN, W_raise, W_ite, W_frz, setK_ok, setK_err, oevK_some, setTK_ok, setTK_err, ifK_true, newLK_ok, appK_is, appK2_ok, appK2_err, extK_is, extK2_ok, extK2_err, dputK_ok, dputK_err, dputK2_is, dputK3_ok, exprK_ok, exprK_err, retK_ok, retK_err, iteK_ok, iteK_err, tstK_true, tstK_false, tstK_not, tstK_dec, frzK_is, slot, List.cons_append, List.nil_append, retO]
      exact ⟨(_, _), .inl rfl⟩
  · have srt := sorted_dk (actKeys n s rs st gs []) (fun _ _ => rfl) (lim_of (by have := akeys_len n s rs st h4 gs []; simp at this; omega))
    have hd : gs.foldl (fun acc gr => (movedL n s rs st gr).foldl (fun acc o => addP acc (gr, o)) acc) [] = actKeys n s rs st gs [] := rfl
    rw [hd]
    simp only [Q.var, Q.int, Q.neg, Q.str, Q.bl, Q.non, Q.glob, Q.tup, Q.lst, Q.bin, Q.cmp, Q.chain, Q.inG, Q.nt, Q.bop, Q.ite, Q.ix, Q.sl, Q.tl0, Q.rev, Q.disp, Q.call, Q.bi1, Q.mn2, Q.isi, Q.cnt, Q.tupRg, Q.lstRg, Q.lenO, Q.ixO, Q.nil, Q.cons, Q.b1, Q.and2, Q.or2, Q.no, Q.some_, Q.seq, Q.rng1, Q.rng2, Q.enm, bind_ok, bind_err, rofO_some, Option.map_some, truth, List.getElem?_cons_succ, List.getElem?_cons_zero, len_le0, len_le1, len_le2, len_le3, len_le4, len_le5, limN0, limN1, limN2, limN3, limN4, limN5, if_true, if_false, entry, List.map_cons, List.map_nil, List.replicate, WT, lcT, setT1, setT2, setT3, wipe1, wipe2, wipe3, Q.cno, Q.csome, List.set_cons_zero, List.set_cons_succ, cmpE, cmpN, cmpLtI, cmpLeI, cmpGtI, cmpGeI, cmpInL, cmpInT, cmpNiL, cmpNiT, addI, subI, lenL, lenT, tupL, lstT, lstL, isiLL, isiTT, isiBB, isiII, isiSS, W_nil, W_set, W_setT, W_newL, W_newD, W_app, W_ext, W_dput, W_expr, W_ret, W_retN, W_raise, W_ite, W_frz, setK_ok, setK_err, oevK_some, setTK_ok, setTK_err, ifK_true, newLK_ok, appK_is, appK2_ok, appK2_err, extK_is, extK2_ok, extK2_err, dputK_ok, dputK_err, dputK2_is, dputK3_ok, exprK_ok, exprK_err, retK_ok, retK_err, iteK_ok, iteK_err, tstK_true, tstK_false, tstK_not, tstK_dec, frzK_is, slot, List.cons_append, List.nil_append, retO, srt]
end
end Rh

set_option Elab.async false
set_option linter.all false
set_option maxRecDepth 100000
set_option maxHeartbeats 4000000
/-! The law's own acts. -/
namespace Rh
open PySem (PyData Str)
open Enc (e)
open Ord' (lt ok)
open Cd
structure J9 where
  a : Option Sl
  b : Option Sl
  c : Option Sl
  d : Option Sl
  e : Option Sl
  f : Option Sl
  g : Option Sl
  h : Option Sl
  i : Option Sl
structure J6 where
  a : Option Sl
  b : Option Sl
  c : Option Sl
  d : Option Sl
  e : Option Sl
  f : Option Sl
section
variable {g : Str → Option PyData} {tab : Str → Option Df} {k : Nat}
structure BaseLA (tab : Str → Option Df) : Prop extends BaseLW tab where
  acts : tab (Str.ofString "_law_acts") = some d_law_acts
theorem shr_bit (mask h : Nat) : binD .RShift (.int mask) (.int h) = some (.int ((mask / 2 ^ h : Nat) : Int)) := by
  have z : (0 : Int) ≤ (h : Int) := by omega
  simp only [binD, z, if_true, Int.toNat_natCast]
  congr 2
theorem and_one (x : Nat) : binD .BitAnd (.int x) (.int 1) = some (.int ((x % 2 : Nat) : Int)) := by
  simp only [binD, if_true]
  congr 2
theorem mask_comp {f : Str → List PyData → Res PyData} (st : List Int) (hs : st.length ≤ 1000) (mask : Nat) (a0 a2 a3 a5 a6 a7 a8 a9 a10 a11 a12 : Option Sl) :
    ev g f c_law_acts_0 [a0, some (.sh (iT st)), a2, a3, some (.sh (.int mask)), a5, a6, a7, a8, a9, a10, a11, a12] = .ok (.list ((maskL st.length mask).map .int)) := by
  have hl : ((st.map PyData.int).length : Int) = (st.length : Int) := by rw [List.length_map]
  refine lc_filter (ea := fun (j : Nat) => .int j) (eb := .int) (fun h => decide (mask / 2 ^ h % 2 = 1)) (fun (h : Nat) => (h : Int)) (List.range st.length) (by simp only [Q.var, Q.int, Q.neg, Q.str, Q.bl, Q.non, Q.glob, Q.tup, Q.lst, Q.bin, Q.cmp, Q.chain, Q.inG, Q.nt, Q.bop, Q.ite, Q.ix, Q.sl, Q.tl0, Q.rev, Q.disp, Q.call, Q.bi1, Q.mn2, Q.isi, Q.cnt, Q.tupRg, Q.lstRg, Q.lenO, Q.ixO, Q.nil, Q.cons, Q.b1, Q.and2, Q.or2, Q.no, Q.some_, Q.seq, Q.rng1, Q.rng2, Q.enm, bind_ok, bind_err, rofO_some, Option.map_some, truth, List.getElem?_cons_succ, List.getElem?_cons_zero, len_le0, len_le1, len_le2, len_le3, len_le4, len_le5, limN0, limN1, limN2, limN3, limN4, limN5, if_true, if_false, entry, List.map_cons, List.map_nil, List.replicate, WT, lcT, setT1, setT2, setT3, wipe1, wipe2, wipe3, Q.cno, Q.csome, List.set_cons_zero, List.set_cons_succ, cmpE, cmpN, cmpLtI, cmpLeI, cmpGtI, cmpGeI, cmpInL, cmpInT, cmpNiL, cmpNiT, addI, subI, lenL, lenT, tupL, lstT, lstL, isiLL, isiTT, isiBB, isiII, isiSS, hl, small_of (show st.length ≤ 1000000 by omega), rangeD_nat]) (by rw [List.length_range]; exact lim_of (by omega)) fun j hj => ?_
  have c1 : (((mask / 2 ^ j % 2 : Nat) : Int) = 1) ↔ mask / 2 ^ j % 2 = 1 := by omega
  simp only [Q.var, Q.int, Q.neg, Q.str, Q.bl, Q.non, Q.glob, Q.tup, Q.lst, Q.bin, Q.cmp, Q.chain, Q.inG, Q.nt, Q.bop, Q.ite, Q.ix, Q.sl, Q.tl0, Q.rev, Q.disp, Q.call, Q.bi1, Q.mn2, Q.isi, Q.cnt, Q.tupRg, Q.lstRg, Q.lenO, Q.ixO, Q.nil, Q.cons, Q.b1, Q.and2, Q.or2, Q.no, Q.some_, Q.seq, Q.rng1, Q.rng2, Q.enm, bind_ok, bind_err, rofO_some, Option.map_some, truth, List.getElem?_cons_succ, List.getElem?_cons_zero, len_le0, len_le1, len_le2, len_le3, len_le4, len_le5, limN0, limN1, limN2, limN3, limN4, limN5, if_true, if_false, entry, List.map_cons, List.map_nil, List.replicate, WT, lcT, setT1, setT2, setT3, wipe1, wipe2, wipe3, Q.cno, Q.csome, List.set_cons_zero, List.set_cons_succ, cmpE, cmpN, cmpLtI, cmpLeI, cmpGtI, cmpGeI, cmpInL, cmpInT, cmpNiL, cmpNiT, addI, subI, lenL, lenT, tupL, lstT, lstL, isiLL, isiTT, isiBB, isiII, isiSS, shr_bit, and_one, eq_int, c1]
theorem rows_in {f : Str → List PyData → Res PyData} (more : List Int) (hm : more.length ≤ 2) (rows : List (List Int)) (hr : ∀ r ∈ rows, r.length ≤ 1000) (h16 : rows.length ≤ 16) (a0 a1 a2 a3 a4 a5 a8 a9 : Option Sl) (j7 j12 : Option Sl) (r : List DS) (K : Out → Prop)
    (hk : ∀ j7' , W g f r [a0, a1, a2, a3, a4, a5, some (.sh (.list (rows.map iT))), j7', a8, a9, some (.sh (.list (more.map .int))), some (.sh (.list ((bothL rows more).map iT))), j12] K) :
    W g f (.for (.one 7) (.seq (.var 6)) b_law_acts_0 :: r) [a0, a1, a2, a3, a4, a5, some (.sh (.list (rows.map iT))), j7, a8, a9, some (.sh (.list (more.map .int))), some (.sh (.list [])), j12] K := by
  have key : ∀ (row : List Int) (acc : List (List Int)), row.length ≤ 1000 → ev g f c_law_acts_1 [a0, a1, a2, a3, a4, a5, some (.sh (.list (rows.map iT))), some (.sh (iT row)), a8, a9, some (.sh (.list (more.map .int))), some (.sh (.list (acc.map iT))), j12] = .ok (.list ((more.map fun p => row ++ [p]).map iT)) := by
    intro row acc hrow
    refine lc_map (ea := .int) (eb := iT) _ more (by simp only [Q.var, Q.int, Q.neg, Q.str, Q.bl, Q.non, Q.glob, Q.tup, Q.lst, Q.bin, Q.cmp, Q.chain, Q.inG, Q.nt, Q.bop, Q.ite, Q.ix, Q.sl, Q.tl0, Q.rev, Q.disp, Q.call, Q.bi1, Q.mn2, Q.isi, Q.cnt, Q.tupRg, Q.lstRg, Q.lenO, Q.ixO, Q.nil, Q.cons, Q.b1, Q.and2, Q.or2, Q.no, Q.some_, Q.seq, Q.rng1, Q.rng2, Q.enm, bind_ok, bind_err, rofO_some, Option.map_some, truth, List.getElem?_cons_succ, List.getElem?_cons_zero, len_le0, len_le1, len_le2, len_le3, len_le4, len_le5, limN0, limN1, limN2, limN3, limN4, limN5, if_true, if_false, entry, List.map_cons, List.map_nil, List.replicate, WT, lcT, setT1, setT2, setT3, wipe1, wipe2, wipe3, Q.cno, Q.csome, List.set_cons_zero, List.set_cons_succ, cmpE, cmpN, cmpLtI, cmpLeI, cmpGtI, cmpGeI, cmpInL, cmpInT, cmpNiL, cmpNiT, addI, subI, lenL, lenT, tupL, lstT, lstL, isiLL, isiTT, isiBB, isiII, isiSS]) (lim_of (by omega)) fun p hp => ?_
    simp only [Q.var, Q.int, Q.neg, Q.str, Q.bl, Q.non, Q.glob, Q.tup, Q.lst, Q.bin, Q.cmp, Q.chain, Q.inG, Q.nt, Q.bop, Q.ite, Q.ix, Q.sl, Q.tl0, Q.rev, Q.disp, Q.call, Q.bi1, Q.mn2, Q.isi, Q.cnt, Q.tupRg, Q.lstRg, Q.lenO, Q.ixO, Q.nil, Q.cons, Q.b1, Q.and2, Q.or2, Q.no, Q.some_, Q.seq, Q.rng1, Q.rng2, Q.enm, bind_ok, bind_err, rofO_some, Option.map_some, truth, List.getElem?_cons_succ, List.getElem?_cons_zero, len_le0, len_le1, len_le2, len_le3, len_le4, len_le5, limN0, limN1, limN2, limN3, limN4, limN5, if_true, if_false, entry, List.map_cons, List.map_nil, List.replicate, WT, lcT, setT1, setT2, setT3, wipe1, wipe2, wipe3, Q.cno, Q.csome, List.set_cons_zero, List.set_cons_succ, cmpE, cmpN, cmpLtI, cmpLeI, cmpGtI, cmpGeI, cmpInL, cmpInT, cmpNiL, cmpNiT, addI, subI, lenL, lenT, tupL, lstT, lstL, isiLL, isiTT, isiBB, isiII, isiSS, cat_one row p hrow]
  refine W_fold (enc := iT) (fun (acc : List (List Int)) (j : Option Sl) => [a0, a1, a2, a3, a4, a5, some (.sh (.list (rows.map iT))), j, a8, a9, some (.sh (.list (more.map .int))), some (.sh (.list (acc.map iT))), j12]) (fun acc row => acc ++ more.map fun p => row ++ [p]) (fun i acc => acc.length ≤ i * 2) rows [] j7 (by simp only [Q.var, Q.int, Q.neg, Q.str, Q.bl, Q.non, Q.glob, Q.tup, Q.lst, Q.bin, Q.cmp, Q.chain, Q.inG, Q.nt, Q.bop, Q.ite, Q.ix, Q.sl, Q.tl0, Q.rev, Q.disp, Q.call, Q.bi1, Q.mn2, Q.isi, Q.cnt, Q.tupRg, Q.lstRg, Q.lenO, Q.ixO, Q.nil, Q.cons, Q.b1, Q.and2, Q.or2, Q.no, Q.some_, Q.seq, Q.rng1, Q.rng2, Q.enm, bind_ok, bind_err, rofO_some, Option.map_some, truth, List.getElem?_cons_succ, List.getElem?_cons_zero, len_le0, len_le1, len_le2, len_le3, len_le4, len_le5, limN0, limN1, limN2, limN3, limN4, limN5, if_true, if_false, entry, List.map_cons, List.map_nil, List.replicate, WT, lcT, setT1, setT2, setT3, wipe1, wipe2, wipe3, Q.cno, Q.csome, List.set_cons_zero, List.set_cons_succ, cmpE, cmpN, cmpLtI, cmpLeI, cmpGtI, cmpGeI, cmpInL, cmpInT, cmpNiL, cmpNiT, addI, subI, lenL, lenT, tupL, lstT, lstL, isiLL, isiTT, isiBB, isiII, isiSS]) (by simp) (fun i acc j row hx hI => ⟨by rw [List.length_append, List.length_map]; omega, ?_⟩) (fun j hI => ?_)
  · have hi := at_lt hx
    have cat := cat_lists iT acc (more.map fun p => row ++ [p]) (by rw [List.length_map]; omega)
    simp only [b_law_acts_0, Q.var, Q.int, Q.neg, Q.str, Q.bl, Q.non, Q.glob, Q.tup, Q.lst, Q.bin, Q.cmp, Q.chain, Q.inG, Q.nt, Q.bop, Q.ite, Q.ix, Q.sl, Q.tl0, Q.rev, Q.disp, Q.call, Q.bi1, Q.mn2, Q.isi, Q.cnt, Q.tupRg, Q.lstRg, Q.lenO, Q.ixO, Q.nil, Q.cons, Q.b1, Q.and2, Q.or2, Q.no, Q.some_, Q.seq, Q.rng1, Q.rng2, Q.enm, bind_ok, bind_err, rofO_some, Option.map_some, truth, List.getElem?_cons_succ, List.getElem?_cons_zero, len_le0, len_le1, len_le2, len_le3, len_le4, len_le5, limN0, limN1, limN2, limN3, limN4, limN5, if_true, if_false, entry, List.map_cons, List.map_nil, List.replicate, WT, lcT, setT1, setT2, setT3, wipe1, wipe2, wipe3, Q.cno, Q.csome, List.set_cons_zero, List.set_cons_succ, cmpE, cmpN, cmpLtI, cmpLeI, cmpGtI, cmpGeI, cmpInL, cmpInT, cmpNiL, cmpNiT, addI, subI, lenL, lenT, tupL, lstT, lstL, isiLL, isiTT, isiBB, isiII, isiSS, W_nil, W_set, W_setT, W_newL, W_newD, W_app, W_ext, W_dput, W_expr, W_ret, W_retN, W_raise, W_ite, W_frz, setK_ok, setK_err, oevK_some, setTK_ok, setTK_err, ifK_true, newLK_ok, appK_is, appK2_ok, appK2_err, extK_is, extK2_ok, extK2_err, dputK_ok, dputK_err, dputK2_is, dputK3_ok, exprK_ok, exprK_err, retK_ok, retK_err, iteK_ok, iteK_err, tstK_true, tstK_false, tstK_not, tstK_dec, frzK_is, slot, List.cons_append, List.nil_append, retO, key row acc (hr row (List.mem_of_getElem? hx)), cat]
    exact ⟨_, .inl rfl⟩
  · rw [foldl_ext, List.nil_append]
    exact hk j
theorem rows_ok (B : BaseLA tab) (hk : 2 ≤ k) {n : Nat} {s : String} {rs : List (List Int × String)} (hb : IsB n s rs) (st gr : List Int) (hs : st.length ≤ 4) (a2 a3 a4 : Option Sl) (j : J6) (r : List DS) (K : Out → Prop)
    (hend : ∀ j : J6, W g (run g tab k) r [some (.sh (bookT n s rs)), some (.sh (iT st)), a2, a3, a4, some (.sh (iT gr)), some (.sh (.list ((movedL n s rs st gr).map iT))), j.a, j.b, j.c, j.d, j.e, j.f] K) :
    W g (run g tab k) (.for (.many [8, 9]) (.enm (.var 1)) b_law_acts_1 :: r) [some (.sh (bookT n s rs)), some (.sh (iT st)), a2, a3, a4, some (.sh (iT gr)), some (.sh (.list [.tuple []])), j.a, j.b, j.c, j.d, j.e, j.f] K := by
  refine W_fold (enc := fun (h : Nat) => PyData.tuple [.int h, .int (st.getD h 0)]) (fun (acc : List (List Int)) (j : J6) => [some (.sh (bookT n s rs)), some (.sh (iT st)), a2, a3, a4, some (.sh (iT gr)), some (.sh (.list (acc.map iT))), j.a, j.b, j.c, j.d, j.e, j.f])
    (fun acc h => bothL acc (goes n s rs st gr h)) (fun i acc => acc = movedN n s rs st gr i) (List.range st.length) [[]] j (by simp only [Q.var, Q.int, Q.neg, Q.str, Q.bl, Q.non, Q.glob, Q.tup, Q.lst, Q.bin, Q.cmp, Q.chain, Q.inG, Q.nt, Q.bop, Q.ite, Q.ix, Q.sl, Q.tl0, Q.rev, Q.disp, Q.call, Q.bi1, Q.mn2, Q.isi, Q.cnt, Q.tupRg, Q.lstRg, Q.lenO, Q.ixO, Q.nil, Q.cons, Q.b1, Q.and2, Q.or2, Q.no, Q.some_, Q.seq, Q.rng1, Q.rng2, Q.enm, bind_ok, bind_err, rofO_some, Option.map_some, truth, List.getElem?_cons_succ, List.getElem?_cons_zero, len_le0, len_le1, len_le2, len_le3, len_le4, len_le5, limN0, limN1, limN2, limN3, limN4, limN5, if_true, if_false, entry, List.map_cons, List.map_nil, List.replicate, WT, lcT, setT1, setT2, setT3, wipe1, wipe2, wipe3, Q.cno, Q.csome, List.set_cons_zero, List.set_cons_succ, cmpE, cmpN, cmpLtI, cmpLeI, cmpGtI, cmpGeI, cmpInL, cmpInT, cmpNiL, cmpNiT, addI, subI, lenL, lenT, tupL, lstT, lstL, isiLL, isiTT, isiBB, isiII, isiSS, enum_range]) rfl (fun i acc j x hx hI => ?_) (fun j hI => hend j)
  have hi := at_lt hx
  rw [List.length_range] at hi
  rw [List.getElem?_range hi] at hx
  cases hx
  subst hI
  obtain ⟨h1, h2⟩ := movedN_len n s rs st gr i
  have p2 : 2 ^ i ≤ 16 := Nat.le_trans (Nat.pow_le_pow_right (by decide) (show i ≤ 4 by omega)) (by decide)
  refine ⟨(movedN_succ n s rs st gr i).symm, ?_⟩
  have e1 := law_wish_ok (g := g) (k := k) B.toBaseLW hk hb st (by omega) (st.getD i 0)
  have gl := goes_len n s rs st gr i
  unfold goes at gl ⊢
  by_cases c : (i : Int) ∈ gr
  · rw [if_pos c] at gl ⊢
    simp only [b_law_acts_1, Q.var, Q.int, Q.neg, Q.str, Q.bl, Q.non, Q.glob, Q.tup, Q.lst, Q.bin, Q.cmp, Q.chain, Q.inG, Q.nt, Q.bop, Q.ite, Q.ix, Q.sl, Q.tl0, Q.rev, Q.disp, Q.call, Q.bi1, Q.mn2, Q.isi, Q.cnt, Q.tupRg, Q.lstRg, Q.lenO, Q.ixO, Q.nil, Q.cons, Q.b1, Q.and2, Q.or2, Q.no, Q.some_, Q.seq, Q.rng1, Q.rng2, Q.enm, bind_ok, bind_err, rofO_some, Option.map_some, truth, List.getElem?_cons_succ, List.getElem?_cons_zero, len_le0, len_le1, len_le2, len_le3, len_le4, len_le5, limN0, limN1, limN2, limN3, limN4, limN5, if_true, if_false, entry, List.map_cons, List.map_nil, List.replicate, WT, lcT, setT1, setT2, setT3, wipe1, wipe2, wipe3, Q.cno, Q.csome, List.set_cons_zero, List.set_cons_succ, cmpE, cmpN, cmpLtI, cmpLeI, cmpGtI, cmpGeI, cmpInL, cmpInT, cmpNiL, cmpNiT, addI, subI, lenL, lenT, tupL, lstT, lstL, isiLL, isiTT, isiBB, isiII, isiSS, W_nil, W_set, W_setT, W_newL, W_newD, W_app, W_ext, W_dput, W_expr, W_ret, W_retN, W_raise, W_ite, W_frz, setK_ok, setK_err, oevK_some, setTK_ok, setTK_err, ifK_true, newLK_ok, appK_is, appK2_ok, appK2_err, extK_is, extK2_ok, extK2_err, dputK_ok, dputK_err, dputK2_is, dputK3_ok, exprK_ok, exprK_err, retK_ok, retK_err, iteK_ok, iteK_err, tstK_true, tstK_false, tstK_not, tstK_dec, frzK_is, slot, List.cons_append, List.nil_append, retO, in_ints, c, decide_true, e1]
    refine rows_in _ gl _ (fun r hr => by rw [h2 r hr]; omega) (by omega) _ _ _ _ _ _ _ _ _ _ _ _ fun j7 => ?_
    simp only [Q.var, Q.int, Q.neg, Q.str, Q.bl, Q.non, Q.glob, Q.tup, Q.lst, Q.bin, Q.cmp, Q.chain, Q.inG, Q.nt, Q.bop, Q.ite, Q.ix, Q.sl, Q.tl0, Q.rev, Q.disp, Q.call, Q.bi1, Q.mn2, Q.isi, Q.cnt, Q.tupRg, Q.lstRg, Q.lenO, Q.ixO, Q.nil, Q.cons, Q.b1, Q.and2, Q.or2, Q.no, Q.some_, Q.seq, Q.rng1, Q.rng2, Q.enm, bind_ok, bind_err, rofO_some, Option.map_some, truth, List.getElem?_cons_succ, List.getElem?_cons_zero, len_le0, len_le1, len_le2, len_le3, len_le4, len_le5, limN0, limN1, limN2, limN3, limN4, limN5, if_true, if_false, entry, List.map_cons, List.map_nil, List.replicate, WT, lcT, setT1, setT2, setT3, wipe1, wipe2, wipe3, Q.cno, Q.csome, List.set_cons_zero, List.set_cons_succ, cmpE, cmpN, cmpLtI, cmpLeI, cmpGtI, cmpGeI, cmpInL, cmpInT, cmpNiL, cmpNiT, addI, subI, lenL, lenT, tupL, lstT, lstL, isiLL, isiTT, isiBB, isiII, isiSS, W_nil, W_set, W_setT, W_newL, W_newD, W_app, W_ext, W_dput, W_expr, W_ret, W_retN, W_raise, W_ite, W_frz, setK_ok, setK_err, oevK_some, setTK_ok, setTK_err, ifK_true, newLK_ok, appK_is, appK2_ok, appK2_err, extK_is, extK2_ok, extK2_err, dputK_ok, dputK_err, dputK2_is, dputK3_ok, exprK_ok, exprK_err, retK_ok, retK_err, iteK_ok, iteK_err, tstK_true, tstK_false, tstK_not, tstK_dec, frzK_is, slot, List.cons_append, List.nil_append, retO]
    exact ⟨⟨_, _, _, _, _, _⟩, .inl rfl⟩
  · rw [if_neg c] at gl ⊢
    simp only [b_law_acts_1, Q.var, Q.int, Q.neg, Q.str, Q.bl, Q.non, Q.glob, Q.tup, Q.lst, Q.bin, Q.cmp, Q.chain, Q.inG, Q.nt, Q.bop, Q.ite, Q.ix, Q.sl, Q.tl0, Q.rev, Q.disp, Q.call, Q.bi1, Q.mn2, Q.isi, Q.cnt, Q.tupRg, Q.lstRg, Q.lenO, Q.ixO, Q.nil, Q.cons, Q.b1, Q.and2, Q.or2, Q.no, Q.some_, Q.seq, Q.rng1, Q.rng2, Q.enm, bind_ok, bind_err, rofO_some, Option.map_some, truth, List.getElem?_cons_succ, List.getElem?_cons_zero, len_le0, len_le1, len_le2, len_le3, len_le4, len_le5, limN0, limN1, limN2, limN3, limN4, limN5, if_true, if_false, entry, List.map_cons, List.map_nil, List.replicate, WT, lcT, setT1, setT2, setT3, wipe1, wipe2, wipe3, Q.cno, Q.csome, List.set_cons_zero, List.set_cons_succ, cmpE, cmpN, cmpLtI, cmpLeI, cmpGtI, cmpGeI, cmpInL, cmpInT, cmpNiL, cmpNiT, addI, subI, lenL, lenT, tupL, lstT, lstL, isiLL, isiTT, isiBB, isiII, isiSS, W_nil, W_set, W_setT, W_newL, W_newD, W_app, W_ext, W_dput, W_expr, W_ret, W_retN, W_raise, W_ite, W_frz, setK_ok, setK_err, oevK_some, setTK_ok, setTK_err, ifK_true, newLK_ok, appK_is, appK2_ok, appK2_err, extK_is, extK2_ok, extK2_err, dputK_ok, dputK_err, dputK2_is, dputK3_ok, exprK_ok, exprK_err, retK_ok, retK_err, iteK_ok, iteK_err, tstK_true, tstK_false, tstK_not, tstK_dec, frzK_is, slot, List.cons_append, List.nil_append, retO, in_ints, c, decide_false]
    refine rows_in [st.getD i 0] gl _ (fun r hr => by rw [h2 r hr]; omega) (by omega) _ _ _ _ _ _ _ _ _ _ _ _ fun j7 => ?_
    simp only [Q.var, Q.int, Q.neg, Q.str, Q.bl, Q.non, Q.glob, Q.tup, Q.lst, Q.bin, Q.cmp, Q.chain, Q.inG, Q.nt, Q.bop, Q.ite, Q.ix, Q.sl, Q.tl0, Q.rev, Q.disp, Q.call, Q.bi1, Q.mn2, Q.isi, Q.cnt, Q.tupRg, Q.lstRg, Q.lenO, Q.ixO, Q.nil, Q.cons, Q.b1, Q.and2, Q.or2, Q.no, Q.some_, Q.seq, Q.rng1, Q.rng2, Q.enm, bind_ok, bind_err, rofO_some, Option.map_some, truth, List.getElem?_cons_succ, List.getElem?_cons_zero, len_le0, len_le1, len_le2, len_le3, len_le4, len_le5, limN0, limN1, limN2, limN3, limN4, limN5, if_true, if_false, entry, List.map_cons, List.map_nil, List.replicate, WT, lcT, setT1, setT2, setT3, wipe1, wipe2, wipe3, Q.cno, Q.csome, List.set_cons_zero, List.set_cons_succ, cmpE, cmpN, cmpLtI, cmpLeI, cmpGtI, cmpGeI, cmpInL, cmpInT, cmpNiL, cmpNiT, addI, subI, lenL, lenT, tupL, lstT, lstL, isiLL, isiTT, isiBB, isiII, isiSS, W_nil, W_set, W_setT, W_newL, W_newD, W_app, W_ext, W_dput, W_expr, W_ret, W_retN, W_raise, W_ite, W_frz, setK_ok, setK_err, oevK_some, setTK_ok, setTK_err, ifK_true, newLK_ok, appK_is, appK2_ok, appK2_err, extK_is, extK2_ok, extK2_err, dputK_ok, dputK_err, dputK2_is, dputK3_ok, exprK_ok, exprK_err, retK_ok, retK_err, iteK_ok, iteK_err, tstK_true, tstK_false, tstK_not, tstK_dec, frzK_is, slot, List.cons_append, List.nil_append, retO]
    exact ⟨⟨_, _, _, _, _, _⟩, .inl rfl⟩
theorem in_order_ok {f : Str → List PyData → Res PyData} (st gr : List Int) {order : String} (ho : order ∈ orders) (a0 a3 a4 a6 a7 a8 a9 a10 a11 a12 : Option Sl) :
    ev g f (.bop .Or (.cons (.cmp .Eq (.var 2) (.str (Str.ofString "some"))) (.cons (.bop .And (.cons (.cmp .Eq (.var 2) (.str (Str.ofString "one"))) (.cons (.cmp .Eq (.bi1 .len (.var 5)) (.int 1)) .nil))) (.cons (.bop .And (.cons (.cmp .Eq (.var 2) (.str (Str.ofString "all"))) (.cons (.cmp .Eq (.bi1 .len (.var 5)) (.bi1 .len (.var 1))) .nil))) .nil))))
      [a0, some (.sh (iT st)), some (.sh (.str (Str.ofString order))), a3, a4, some (.sh (iT gr)), a6, a7, a8, a9, a10, a11, a12] = .ok (.bool (inOrder st.length order gr)) := by
  have l1 : (((gr.map PyData.int).length : Int) = 1) ↔ gr.length = 1 := by rw [List.length_map]; omega
  have l2 : (((gr.map PyData.int).length : Int) = ((st.map PyData.int).length : Int)) ↔ gr.length = st.length := by rw [List.length_map, List.length_map]; omega
  have t1 : decide (("some" : String) = "some") = true := by decide
  have t2 : decide (("one" : String) = "some") = false := by decide
  have t3 : decide (("one" : String) = "one") = true := by decide
  have t4 : decide (("one" : String) = "all") = false := by decide
  have t5 : decide (("all" : String) = "some") = false := by decide
  have t6 : decide (("all" : String) = "one") = false := by decide
  have t7 : decide (("all" : String) = "all") = true := by decide
  have ho' : order = "one" ∨ order = "some" ∨ order = "all" := by simpa [orders] using ho
  unfold inOrder
  rcases ho' with rfl | rfl | rfl
  · by_cases c : gr.length = 1
    · simp only [Q.var, Q.int, Q.neg, Q.str, Q.bl, Q.non, Q.glob, Q.tup, Q.lst, Q.bin, Q.cmp, Q.chain, Q.inG, Q.nt, Q.bop, Q.ite, Q.ix, Q.sl, Q.tl0, Q.rev, Q.disp, Q.call, Q.bi1, Q.mn2, Q.isi, Q.cnt, Q.tupRg, Q.lstRg, Q.lenO, Q.ixO, Q.nil, Q.cons, Q.b1, Q.and2, Q.or2, Q.no, Q.some_, Q.seq, Q.rng1, Q.rng2, Q.enm, bind_ok, bind_err, rofO_some, Option.map_some, truth, List.getElem?_cons_succ, List.getElem?_cons_zero, len_le0, len_le1, len_le2, len_le3, len_le4, len_le5, limN0, limN1, limN2, limN3, limN4, limN5, if_true, if_false, entry, List.map_cons, List.map_nil, List.replicate, WT, lcT, setT1, setT2, setT3, wipe1, wipe2, wipe3, Q.cno, Q.csome, List.set_cons_zero, List.set_cons_succ, cmpE, cmpN, cmpLtI, cmpLeI, cmpGtI, cmpGeI, cmpInL, cmpInT, cmpNiL, cmpNiT, addI, subI, lenL, lenT, tupL, lstT, lstL, isiLL, isiTT, isiBB, isiII, isiSS, eq_str, eq_int, l1, t2, t3, t4, c, decide_true, Bool.false_or, Bool.true_and, Bool.or_false, Bool.false_and, Bool.true_or]
    · simp only [Q.var, Q.int, Q.neg, Q.str, Q.bl, Q.non, Q.glob, Q.tup, Q.lst, Q.bin, Q.cmp, Q.chain, Q.inG, Q.nt, Q.bop, Q.ite, Q.ix, Q.sl, Q.tl0, Q.rev, Q.disp, Q.call, Q.bi1, Q.mn2, Q.isi, Q.cnt, Q.tupRg, Q.lstRg, Q.lenO, Q.ixO, Q.nil, Q.cons, Q.b1, Q.and2, Q.or2, Q.no, Q.some_, Q.seq, Q.rng1, Q.rng2, Q.enm, bind_ok, bind_err, rofO_some, Option.map_some, truth, List.getElem?_cons_succ, List.getElem?_cons_zero, len_le0, len_le1, len_le2, len_le3, len_le4, len_le5, limN0, limN1, limN2, limN3, limN4, limN5, if_true, if_false, entry, List.map_cons, List.map_nil, List.replicate, WT, lcT, setT1, setT2, setT3, wipe1, wipe2, wipe3, Q.cno, Q.csome, List.set_cons_zero, List.set_cons_succ, cmpE, cmpN, cmpLtI, cmpLeI, cmpGtI, cmpGeI, cmpInL, cmpInT, cmpNiL, cmpNiT, addI, subI, lenL, lenT, tupL, lstT, lstL, isiLL, isiTT, isiBB, isiII, isiSS, eq_str, eq_int, l1, t2, t3, t4, c, decide_true, decide_false, Bool.false_or, Bool.true_and, Bool.or_false, Bool.false_and]
  · simp only [Q.var, Q.int, Q.neg, Q.str, Q.bl, Q.non, Q.glob, Q.tup, Q.lst, Q.bin, Q.cmp, Q.chain, Q.inG, Q.nt, Q.bop, Q.ite, Q.ix, Q.sl, Q.tl0, Q.rev, Q.disp, Q.call, Q.bi1, Q.mn2, Q.isi, Q.cnt, Q.tupRg, Q.lstRg, Q.lenO, Q.ixO, Q.nil, Q.cons, Q.b1, Q.and2, Q.or2, Q.no, Q.some_, Q.seq, Q.rng1, Q.rng2, Q.enm, bind_ok, bind_err, rofO_some, Option.map_some, truth, List.getElem?_cons_succ, List.getElem?_cons_zero, len_le0, len_le1, len_le2, len_le3, len_le4, len_le5, limN0, limN1, limN2, limN3, limN4, limN5, if_true, if_false, entry, List.map_cons, List.map_nil, List.replicate, WT, lcT, setT1, setT2, setT3, wipe1, wipe2, wipe3, Q.cno, Q.csome, List.set_cons_zero, List.set_cons_succ, cmpE, cmpN, cmpLtI, cmpLeI, cmpGtI, cmpGeI, cmpInL, cmpInT, cmpNiL, cmpNiT, addI, subI, lenL, lenT, tupL, lstT, lstL, isiLL, isiTT, isiBB, isiII, isiSS, eq_str, t1, decide_true, Bool.true_or]
  · simp only [Q.var, Q.int, Q.neg, Q.str, Q.bl, Q.non, Q.glob, Q.tup, Q.lst, Q.bin, Q.cmp, Q.chain, Q.inG, Q.nt, Q.bop, Q.ite, Q.ix, Q.sl, Q.tl0, Q.rev, Q.disp, Q.call, Q.bi1, Q.mn2, Q.isi, Q.cnt, Q.tupRg, Q.lstRg, Q.lenO, Q.ixO, Q.nil, Q.cons, Q.b1, Q.and2, Q.or2, Q.no, Q.some_, Q.seq, Q.rng1, Q.rng2, Q.enm, bind_ok, bind_err, rofO_some, Option.map_some, truth, List.getElem?_cons_succ, List.getElem?_cons_zero, len_le0, len_le1, len_le2, len_le3, len_le4, len_le5, limN0, limN1, limN2, limN3, limN4, limN5, if_true, if_false, entry, List.map_cons, List.map_nil, List.replicate, WT, lcT, setT1, setT2, setT3, wipe1, wipe2, wipe3, Q.cno, Q.csome, List.set_cons_zero, List.set_cons_succ, cmpE, cmpN, cmpLtI, cmpLeI, cmpGtI, cmpGeI, cmpInL, cmpInT, cmpNiL, cmpNiT, addI, subI, lenL, lenT, tupL, lstT, lstL, isiLL, isiTT, isiBB, isiII, isiSS, eq_str, eq_int, l2, t5, t6, t7, decide_true, Bool.false_or, Bool.true_and, Bool.false_and]
theorem foldl_if {α β : Type} (p : β → Bool) (F : α → β → α) : ∀ (xs : List β) (a : α), xs.foldl (fun a x => if p x then F a x else a) a = (xs.filter p).foldl F a
  | [], a => rfl
  | x :: r, a => by
    rw [List.foldl_cons, foldl_if p F r, List.filter_cons]
    cases p x <;> rfl
theorem foldl_map' {α β γ : Type} (F : α → β → α) (G : γ → β) : ∀ (xs : List γ) (a : α), xs.foldl (fun a x => F a (G x)) a = (xs.map G).foldl F a
  | [], a => rfl
  | x :: r, a => by rw [List.foldl_cons, foldl_map' F G r]; rfl
theorem shl_one (m : Nat) (hm : m ≤ 4) : binD .LShift (.int 1) (.int m) = some (.int ((2 ^ m : Nat) : Int)) := by
  have z : (1 : Int) = 1 ∧ (0 : Int) ≤ (m : Int) ∧ (m : Int) ≤ 1000 := ⟨rfl, by omega, by omega⟩
  simp only [binD, z, and_self, if_true, Int.toNat_natCast]
  congr 2
/-- the law tells the same acts -/
theorem law_acts_same (n : Nat) (s : String) (rs : List (List Int × String)) (st : List Int) (h1 : 1 ≤ st.length) (h4 : st.length ≤ 4) {order : String} (ho : order ∈ orders) :
    sortL (actKeys n s rs st (((List.range' 1 (2 ^ st.length - 1)).map (maskL st.length)).filter (inOrder st.length order)) []) = actsL n s rs order st := by
  have hm : st.length ∈ [1, 2, 3, 4] := by
    have : st.length = 1 ∨ st.length = 2 ∨ st.length = 3 ∨ st.length = 4 := by omega
    rcases this with z | z | z | z <;> rw [z] <;> decide
  obtain ⟨g1, g2⟩ := masks_groups st.length hm order ho
  rw [List.all_eq_true] at g1 g2
  refine sortL_same (key_nodup n s rs st _ [] List.nodup_nil) (key_nodup n s rs st _ [] List.nodup_nil) fun x => ?_
  rw [key_mem, key_mem]
  constructor
  · rintro (z | ⟨z1, z2⟩)
    · cases z
    · exact .inr ⟨of_decide_eq_true (g1 _ z1), z2⟩
  · rintro (z | ⟨z1, z2⟩)
    · cases z
    · exact .inr ⟨of_decide_eq_true (g2 _ z1), z2⟩
theorem law_acts_ok (B : BaseLA tab) (hk : 3 ≤ k) {n : Nat} {s : String} {rs : List (List Int × String)} (hb : IsB n s rs) (st : List Int) (h1 : 1 ≤ st.length) (h4 : st.length ≤ 4) {order : String} (ho : order ∈ orders) :
    run g tab k (Str.ofString "_law_acts") [bookT n s rs, iT st, .str (Str.ofString order)] = .ok (.list ((actsL n s rs order st).map e)) := by
  refine run_W B.acts (by omega) rfl ?_
  have hl : ((st.map PyData.int).length : Int) = (st.length : Int) := by rw [List.length_map]
  have p2 : 2 ^ st.length ≤ 16 := Nat.le_trans (Nat.pow_le_pow_right (by decide) h4) (by decide)
  have p1 : 1 ≤ 2 ^ st.length := Nat.one_le_two_pow
  have rg : rangeD 1 ((2 ^ st.length : Nat) : Int) = (List.range' 1 (2 ^ st.length - 1)).map fun (j : Nat) => PyData.int j := rangeD_from 1 (2 ^ st.length) p1
  have s1 : small 1 = true := rfl
  have s2 := small_of (show 2 ^ st.length ≤ 1000000 by omega)
  have sb : (small 1 && small ((2 ^ st.length : Nat) : Int)) = true := by rw [s1, s2]; rfl
  simp only [d_law_acts, Q.var, Q.int, Q.neg, Q.str, Q.bl, Q.non, Q.glob, Q.tup, Q.lst, Q.bin, Q.cmp, Q.chain, Q.inG, Q.nt, Q.bop, Q.ite, Q.ix, Q.sl, Q.tl0, Q.rev, Q.disp, Q.call, Q.bi1, Q.mn2, Q.isi, Q.cnt, Q.tupRg, Q.lstRg, Q.lenO, Q.ixO, Q.nil, Q.cons, Q.b1, Q.and2, Q.or2, Q.no, Q.some_, Q.seq, Q.rng1, Q.rng2, Q.enm, bind_ok, bind_err, rofO_some, Option.map_some, truth, List.getElem?_cons_succ, List.getElem?_cons_zero, len_le0, len_le1, len_le2, len_le3, len_le4, len_le5, limN0, limN1, limN2, limN3, limN4, limN5, if_true, if_false, entry, List.map_cons, List.map_nil, List.replicate, WT, lcT, setT1, setT2, setT3, wipe1, wipe2, wipe3, Q.cno, Q.csome, List.set_cons_zero, List.set_cons_succ, cmpE, cmpN, cmpLtI, cmpLeI, cmpGtI, cmpGeI, cmpInL, cmpInT, cmpNiL, cmpNiT, addI, subI, lenL, lenT, tupL, lstT, lstL, isiLL, isiTT, isiBB, isiII, isiSS, W_nil, W_set, W_setT, W_newL, W_newD, W_app, W_ext, W_dput, W_expr, W_ret, W_retN, W_raise, W_ite, W_frz, setK_ok, setK_err, oevK_some, setTK_ok, setTK_err, ifK_true, newLK_ok, appK_is, appK2_ok, appK2_err, extK_is, extK2_ok, extK2_err, dputK_ok, dputK_err, dputK2_is, dputK3_ok, exprK_ok, exprK_err, retK_ok, retK_err, iteK_ok, iteK_err, tstK_true, tstK_false, tstK_not, tstK_dec, frzK_is, slot, List.cons_append, List.nil_append, retO]
  refine W_fold (enc := fun (j : Nat) => PyData.int j) (fun (acc : List (List Int × List Int)) (j : J9) => [some (.sh (bookT n s rs)), some (.sh (iT st)), some (.sh (.str (Str.ofString order))), some (.own (.dict (dkT acc))), j.a, j.b, j.c, j.d, j.e, j.f, j.g, j.h, j.i])
    (fun acc mask => if inOrder st.length order (maskL st.length mask) then (movedL n s rs st (maskL st.length mask)).foldl (fun acc o => addP acc (maskL st.length mask, o)) acc else acc) (fun i acc => acc.length ≤ i * 16) (List.range' 1 (2 ^ st.length - 1)) [] ⟨none, none, none, none, none, none, none, none, none⟩
    (by simp only [Q.var, Q.int, Q.neg, Q.str, Q.bl, Q.non, Q.glob, Q.tup, Q.lst, Q.bin, Q.cmp, Q.chain, Q.inG, Q.nt, Q.bop, Q.ite, Q.ix, Q.sl, Q.tl0, Q.rev, Q.disp, Q.call, Q.bi1, Q.mn2, Q.isi, Q.cnt, Q.tupRg, Q.lstRg, Q.lenO, Q.ixO, Q.nil, Q.cons, Q.b1, Q.and2, Q.or2, Q.no, Q.some_, Q.seq, Q.rng1, Q.rng2, Q.enm, bind_ok, bind_err, rofO_some, Option.map_some, truth, List.getElem?_cons_succ, List.getElem?_cons_zero, len_le0, len_le1, len_le2, len_le3, len_le4, len_le5, limN0, limN1, limN2, limN3, limN4, limN5, if_true, if_false, entry, List.map_cons, List.map_nil, List.replicate, WT, lcT, setT1, setT2, setT3, wipe1, wipe2, wipe3, Q.cno, Q.csome, List.set_cons_zero, List.set_cons_succ, cmpE, cmpN, cmpLtI, cmpLeI, cmpGtI, cmpGeI, cmpInL, cmpInT, cmpNiL, cmpNiT, addI, subI, lenL, lenT, tupL, lstT, lstL, isiLL, isiTT, isiBB, isiII, isiSS, hl, shl_one _ h4, sb, rg]) (by simp) (fun i acc j mask hx hI => ?_) (fun j hI => ?_)
  · have hi := at_lt hx
    rw [List.length_range'] at hi
    have mc := mask_comp (g := g) (f := run g tab (k - 1)) st (by omega) mask
    generalize maskL st.length mask = gr at mc ⊢
    have io := in_order_ok (g := g) (f := run g tab (k - 1)) st gr ho
    have hmv : (movedL n s rs st gr).length ≤ 16 := Nat.le_trans (movedN_len n s rs st gr st.length).1 p2
    have al := addAll_len (fun o => (gr, o)) (movedL n s rs st gr) acc
    by_cases c : inOrder st.length order gr = true
    · rw [if_pos c]
      refine ⟨by rw [Nat.succ_mul]; omega, ?_⟩
      simp only [b_law_acts_3, Q.var, Q.int, Q.neg, Q.str, Q.bl, Q.non, Q.glob, Q.tup, Q.lst, Q.bin, Q.cmp, Q.chain, Q.inG, Q.nt, Q.bop, Q.ite, Q.ix, Q.sl, Q.tl0, Q.rev, Q.disp, Q.call, Q.bi1, Q.mn2, Q.isi, Q.cnt, Q.tupRg, Q.lstRg, Q.lenO, Q.ixO, Q.nil, Q.cons, Q.b1, Q.and2, Q.or2, Q.no, Q.some_, Q.seq, Q.rng1, Q.rng2, Q.enm, bind_ok, bind_err, rofO_some, Option.map_some, truth, List.getElem?_cons_succ, List.getElem?_cons_zero, len_le0, len_le1, len_le2, len_le3, len_le4, len_le5, limN0, limN1, limN2, limN3, limN4, limN5, if_true, if_false, entry, List.map_cons, List.map_nil, List.replicate, WT, lcT, setT1, setT2, setT3, wipe1, wipe2, wipe3, Q.cno, Q.csome, List.set_cons_zero, List.set_cons_succ, cmpE, cmpN, cmpLtI, cmpLeI, cmpGtI, cmpGeI, cmpInL, cmpInT, cmpNiL, cmpNiT, addI, subI, lenL, lenT, tupL, lstT, lstL, isiLL, isiTT, isiBB, isiII, isiSS, W_nil, W_set, W_setT, W_newL, W_newD, W_app, W_ext, W_dput, W_expr, W_ret, W_retN, W_raise, W_ite, W_frz, setK_ok, setK_err, oevK_some, setTK_ok, setTK_err, ifK_true, newLK_ok, appK_is, appK2_ok, appK2_err, extK_is, extK2_ok, extK2_err, dputK_ok, dputK_err, dputK2_is, dputK3_ok, exprK_ok, exprK_err, retK_ok, retK_err, iteK_ok, iteK_err, tstK_true, tstK_false, tstK_not, tstK_dec, frzK_is, slot, List.cons_append, List.nil_append, retO, mc, io, c]
      refine rows_ok (k := k - 1) B (by omega) hb st gr h4 _ _ _ ⟨j.d, j.e, j.f, j.g, j.h, j.i⟩ _ _ fun j' => ?_
      refine W_fold (enc := iT) (fun (acc : List (List Int × List Int)) (jj : Option Sl) => [some (.sh (bookT n s rs)), some (.sh (iT st)), some (.sh (.str (Str.ofString order))), some (.own (.dict (dkT acc))), some (.sh (.int mask)), some (.sh (iT gr)), some (.sh (.list ((movedL n s rs st gr).map iT))), jj, j'.b, j'.c, j'.d, j'.e, j'.f])
        (fun acc o => addP acc (gr, o)) (fun i' acc' => acc'.length ≤ i * 16 + i') (movedL n s rs st gr) acc j'.a (by simp only [Q.var, Q.int, Q.neg, Q.str, Q.bl, Q.non, Q.glob, Q.tup, Q.lst, Q.bin, Q.cmp, Q.chain, Q.inG, Q.nt, Q.bop, Q.ite, Q.ix, Q.sl, Q.tl0, Q.rev, Q.disp, Q.call, Q.bi1, Q.mn2, Q.isi, Q.cnt, Q.tupRg, Q.lstRg, Q.lenO, Q.ixO, Q.nil, Q.cons, Q.b1, Q.and2, Q.or2, Q.no, Q.some_, Q.seq, Q.rng1, Q.rng2, Q.enm, bind_ok, bind_err, rofO_some, Option.map_some, truth, List.getElem?_cons_succ, List.getElem?_cons_zero, len_le0, len_le1, len_le2, len_le3, len_le4, len_le5, limN0, limN1, limN2, limN3, limN4, limN5, if_true, if_false, entry, List.map_cons, List.map_nil, List.replicate, WT, lcT, setT1, setT2, setT3, wipe1, wipe2, wipe3, Q.cno, Q.csome, List.set_cons_zero, List.set_cons_succ, cmpE, cmpN, cmpLtI, cmpLeI, cmpGtI, cmpGeI, cmpInL, cmpInT, cmpNiL, cmpNiT, addI, subI, lenL, lenT, tupL, lstT, lstL, isiLL, isiTT, isiBB, isiII, isiSS]) (by omega) (fun i' acc' jj o hx' hI' => ?_) (fun jj _ => ?_)
      · have hi' := at_lt hx'
        have a1 := addP_len acc' (gr, o)
        refine ⟨by omega, ?_⟩
        have hkey : isKey (.tuple [iT gr, iT o]) = true ∧ (dkT acc').length < lim := ⟨Key'.key (gr, o), lim_lt' (by rw [List.length_map]; omega)⟩
        have dp : dput (.tuple [iT gr, iT o]) (.bool true) (dkT acc') = dkT (addP acc' (gr, o)) := dput_dk (gr, o) acc'
        simp only [b_law_acts_2, Q.var, Q.int, Q.neg, Q.str, Q.bl, Q.non, Q.glob, Q.tup, Q.lst, Q.bin, Q.cmp, Q.chain, Q.inG, Q.nt, Q.bop, Q.ite, Q.ix, Q.sl, Q.tl0, Q.rev, Q.disp, Q.call, Q.bi1, Q.mn2, Q.isi, Q.cnt, Q.tupRg, Q.lstRg, Q.lenO, Q.ixO, Q.nil, Q.cons, Q.b1, Q.and2, Q.or2, Q.no, Q.some_, Q.seq, Q.rng1, Q.rng2, Q.enm, bind_ok, bind_err, rofO_some, Option.map_some, truth, List.getElem?_cons_succ, List.getElem?_cons_zero, len_le0, len_le1, len_le2, len_le3, len_le4, len_le5, limN0, limN1, limN2, limN3, limN4, limN5, if_true, if_false, entry, List.map_cons, List.map_nil, List.replicate, WT, lcT, setT1, setT2, setT3, wipe1, wipe2, wipe3, Q.cno, Q.csome, List.set_cons_zero, List.set_cons_succ, cmpE, cmpN, cmpLtI, cmpLeI, cmpGtI, cmpGeI, cmpInL, cmpInT, cmpNiL, cmpNiT, addI, subI, lenL, lenT, tupL, lstT, lstL, isiLL, isiTT, isiBB, isiII, isiSS, W_nil, W_set, W_setT, W_newL, W_newD, W_app, W_ext, W_dput, W_expr, W_ret, W_retN, W_raise, W_ite, W_frz, setK_ok, setK_err, oevK_some, setTK_ok, setTK_err, ifK_true, newLK_ok, appK_is, appK2_ok, appK2_err, extK_is, extK2_ok, extK2_err, dputK_ok, dputK_err, dputK2_is, dputK3_ok, exprK_ok, exprK_err, retK_ok, retK_err, iteK_ok, iteK_err, tstK_true, tstK_false, tstK_not, tstK_dec, frzK_is, slot, List.cons_append, List.nil_append, retO, ifK_pos hkey, dp]
        exact ⟨_, .inl rfl⟩
      · simp only [Q.var, Q.int, Q.neg, Q.str, Q.bl, Q.non, Q.glob, Q.tup, Q.lst, Q.bin, Q.cmp, Q.chain, Q.inG, Q.nt, Q.bop, Q.ite, Q.ix, Q.sl, Q.tl0, Q.rev, Q.disp, Q.call, Q.bi1, Q.mn2, Q.isi, Q.cnt, Q.tupRg, Q.lstRg, Q.lenO, Q.ixO, Q.nil, Q.cons, Q.b1, Q.and2, Q.or2, Q.no, Q.some_, Q.seq, Q.rng1, Q.rng2, Q.enm, bind_ok, bind_err, rofO_some, Option.map_some, truth, List.getElem?_cons_succ, List.getElem?_cons_zero, len_le0, len_le1, len_le2, len_le3, len_le4, len_le5, limN0, limN1, limN2, limN3, limN4, limN5, if_true, if_false, entry, List.map_cons, List.map_nil, List.replicate, WT, lcT, setT1, setT2, setT3, wipe1, wipe2, wipe3, Q.cno, Q.csome, List.set_cons_zero, List.set_cons_succ, cmpE, cmpN, cmpLtI, cmpLeI, cmpGtI, cmpGeI, cmpInL, cmpInT, cmpNiL, cmpNiT, addI, subI, lenL, lenT, tupL, lstT, lstL, isiLL, isiTT, isiBB, isiII, isiSS, W_nil, W_set, W_setT, W_newL, W_newD, W_app, W_ext, W_dput, W_expr, W_ret, W_retN, W_raise, W_ite, W_frz, setK_ok, setK_err, oevK_some, setTK_ok, setTK_err, ifK_true, newLK_ok, appK_is, appK2_ok, appK2_err, extK_is, extK2_ok, extK2_err, dputK_ok, dputK_err, dputK2_is, dputK3_ok, exprK_ok, exprK_err, retK_ok, retK_err, iteK_ok, iteK_err, tstK_true, tstK_false, tstK_not, tstK_dec, frzK_is, slot, List.cons_append, List.nil_append, retO]
        exact ⟨⟨_, _, _, _, _, _, _, _, _⟩, .inl rfl⟩
    · have c' : inOrder st.length order gr = false := by simpa using c
      rw [if_neg c]
      refine ⟨by rw [Nat.succ_mul]; omega, ?_⟩
      simp only [b_law_acts_3, Q.var, Q.int, Q.neg, Q.str, Q.bl, Q.non, Q.glob, Q.tup, Q.lst, Q.bin, Q.cmp, Q.chain, Q.inG, Q.nt, Q.bop, Q.ite, Q.ix, Q.sl, Q.tl0, Q.rev, Q.disp, Q.call, Q.bi1, Q.mn2, Q.isi, Q.cnt, Q.tupRg, Q.lstRg, Q.lenO, Q.ixO, Q.nil, Q.cons, Q.b1, Q.and2, Q.or2, Q.no, Q.some_, Q.seq, Q.rng1, Q.rng2, Q.enm, bind_ok, bind_err, rofO_some, Option.map_some, truth, List.getElem?_cons_succ, List.getElem?_cons_zero, len_le0, len_le1, len_le2, len_le3, len_le4, len_le5, limN0, limN1, limN2, limN3, limN4, limN5, if_true, if_false, entry, List.map_cons, List.map_nil, List.replicate, WT, lcT, setT1, setT2, setT3, wipe1, wipe2, wipe3, Q.cno, Q.csome, List.set_cons_zero, List.set_cons_succ, cmpE, cmpN, cmpLtI, cmpLeI, cmpGtI, cmpGeI, cmpInL, cmpInT, cmpNiL, cmpNiT, addI, subI, lenL, lenT, tupL, lstT, lstL, isiLL, isiTT, isiBB, isiII, isiSS, W_nil, W_set, W_setT, W_newL, W_newD, W_app, W_ext, W_dput, W_expr, W_ret, W_retN, W_raise, W_ite, W_frz, setK_ok, setK_err, oevK_some, setTK_ok, setTK_err, ifK_true, newLK_ok, appK_is, appK2_ok, appK2_err, extK_is, extK2_ok, extK2_err, dputK_ok, dputK_err, dputK2_is, dputK3_ok, exprK_ok, exprK_err, retK_ok, retK_err, iteK_ok, iteK_err, tstK_true, tstK_false, tstK_not, tstK_dec, frzK_is, slot, List.cons_append, List.nil_append, retO, mc, io, c']
      exact ⟨⟨_, _, _, _, _, _, _, _, _⟩, .inl rfl⟩
  · have same := law_acts_same n s rs st h1 h4 ho
    have fd : (List.range' 1 (2 ^ st.length - 1)).foldl (fun acc mask => if inOrder st.length order (maskL st.length mask) then (movedL n s rs st (maskL st.length mask)).foldl (fun acc o => addP acc (maskL st.length mask, o)) acc else acc) [] = actKeys n s rs st (((List.range' 1 (2 ^ st.length - 1)).map (maskL st.length)).filter (inOrder st.length order)) [] := by
      rw [foldl_map' (fun acc gr => if inOrder st.length order gr then (movedL n s rs st gr).foldl (fun acc o => addP acc (gr, o)) acc else acc) (maskL st.length), foldl_if (inOrder st.length order) (fun acc gr => (movedL n s rs st gr).foldl (fun acc o => addP acc (gr, o)) acc)]
      rfl
    rw [fd]
    have srt := sorted_dk (actKeys n s rs st (((List.range' 1 (2 ^ st.length - 1)).map (maskL st.length)).filter (inOrder st.length order)) []) (fun _ _ => rfl) (lim_of (by
      have z := akeys_len n s rs st h4 (((List.range' 1 (2 ^ st.length - 1)).map (maskL st.length)).filter (inOrder st.length order)) []
      have z2 := List.length_filter_le (inOrder st.length order) ((List.range' 1 (2 ^ st.length - 1)).map (maskL st.length))
      rw [List.length_map, List.length_range'] at z2
      simp only [List.length_nil] at z
      omega))
    rw [same] at srt
    simp only [Q.var, Q.int, Q.neg, Q.str, Q.bl, Q.non, Q.glob, Q.tup, Q.lst, Q.bin, Q.cmp, Q.chain, Q.inG, Q.nt, Q.bop, Q.ite, Q.ix, Q.sl, Q.tl0, Q.rev, Q.disp, Q.call, Q.bi1, Q.mn2, Q.isi, Q.cnt, Q.tupRg, Q.lstRg, Q.lenO, Q.ixO, Q.nil, Q.cons, Q.b1, Q.and2, Q.or2, Q.no, Q.some_, Q.seq, Q.rng1, Q.rng2, Q.enm, bind_ok, bind_err, rofO_some, Option.map_some, truth, List.getElem?_cons_succ, List.getElem?_cons_zero, len_le0, len_le1, len_le2, len_le3, len_le4, len_le5, limN0, limN1, limN2, limN3, limN4, limN5, if_true, if_false, entry, List.map_cons, List.map_nil, List.replicate, WT, lcT, setT1, setT2, setT3, wipe1, wipe2, wipe3, Q.cno, Q.csome, List.set_cons_zero, List.set_cons_succ, cmpE, cmpN, cmpLtI, cmpLeI, cmpGtI, cmpGeI, cmpInL, cmpInT, cmpNiL, cmpNiT, addI, subI, lenL, lenT, tupL, lstT, lstL, isiLL, isiTT, isiBB, isiII, isiSS, W_nil, W_set, W_setT, W_newL, W_newD, W_app, W_ext, W_dput, W_expr, W_ret, W_retN, W_raise, W_ite, W_frz, setK_ok, setK_err, oevK_some, setTK_ok, setTK_err, ifK_true, newLK_ok, appK_is, appK2_ok, appK2_err, extK_is, extK2_ok, extK2_err, dputK_ok, dputK_err, dputK2_is, dputK3_ok, exprK_ok, exprK_err, retK_ok, retK_err, iteK_ok, iteK_err, tstK_true, tstK_false, tstK_not, tstK_dec, frzK_is, slot, List.cons_append, List.nil_append, retO, srt]
end
end Rh

set_option Elab.async false
set_option linter.all false
set_option maxRecDepth 100000
set_option maxHeartbeats 4000000
/-! Acts that are played. -/
namespace Rh
open PySem (PyData Str)
open Enc (e)
open Ord' (lt ok)
open Cd
theorem wish_range {n : Nat} (hn : 0 < n) (s : String) (rs : List (List Int × String)) (st : List Int) (p : Int) (hp : 0 ≤ p ∧ p < n) : ∀ q ∈ wishL n s rs st p, 0 ≤ q ∧ q < (n : Int) := by
  have md : ∀ x : Int, 0 ≤ x % (n : Int) ∧ x % (n : Int) < n := fun x => ⟨Int.emod_nonneg _ (by omega), Int.emod_lt_of_pos _ (by omega)⟩
  intro q hq
  unfold wishL at hq
  split at hq
  · rw [List.mem_singleton] at hq
    rw [hq]
    exact hp
  · split at hq
    · rw [sortL_mem] at hq
      simp only [List.mem_cons, List.not_mem_nil, or_false] at hq
      rcases hq with rfl | rfl <;> exact md _
    · split at hq
      · rw [List.mem_singleton] at hq
        rw [hq]
        exact md _
      · rw [List.mem_singleton] at hq
        rw [hq]
        exact md _
theorem goes_range {n : Nat} (hn : 0 < n) (s : String) (rs : List (List Int × String)) {st : List Int} (hs : IsS n st) (gr : List Int) {h : Nat} (hh : h < st.length) : ∀ q ∈ goes n s rs st gr h, 0 ≤ q ∧ q < (n : Int) := by
  have hp : 0 ≤ st.getD h 0 ∧ st.getD h 0 < (n : Int) := by
    rw [List.getD_eq_getElem?_getD, List.getElem?_eq_getElem hh]
    exact hs.rg _ (List.getElem_mem hh)
  intro q hq
  unfold goes at hq
  split at hq
  · exact wish_range hn s rs st _ hp q hq
  · rw [List.mem_singleton] at hq
    rw [hq]
    exact hp
theorem moved_stand {n : Nat} (hn : 0 < n) (s : String) (rs : List (List Int × String)) {st : List Int} (hs : IsS n st) {gr x : List Int} (hx : x ∈ movedL n s rs st gr) : IsS n x ∧ x.length = st.length := by
  obtain ⟨h1, h2⟩ := (moved_mem n s rs st gr x).mp hx
  refine ⟨⟨by rw [h1]; exact hs.lo, by rw [h1]; exact hs.hi, fun p hp => ?_⟩, h1⟩
  obtain ⟨i, hi, rfl⟩ := List.getElem_of_mem hp
  have z := goes_range hn s rs hs gr (h := i) (by omega) _ (h2 i (by omega))
  rw [List.getD_eq_getElem?_getD, List.getElem?_eq_getElem hi] at z
  exact z
theorem acts_mem (n : Nat) (s : String) (rs : List (List Int × String)) (order : String) (st : List Int) (x : List Int × List Int) : x ∈ actsL n s rs order st ↔ x.1 ∈ groupsL st.length order ∧ x.2 ∈ movedL n s rs st x.1 := by
  unfold actsL
  rw [sortL_mem, key_mem]
  simp
theorem acts_stand {n : Nat} (hn : 0 < n) {s : String} {rs : List (List Int × String)} {order : String} {st : List Int} (hs : IsS n st) {x : List Int × List Int} (hx : x ∈ actsL n s rs order st) : IsS n x.2 ∧ x.2.length = st.length :=
  moved_stand hn s rs hs ((acts_mem n s rs order st x).mp hx).2
theorem moved_ne (n : Nat) (s : String) (rs : List (List Int × String)) (st gr : List Int) : ∀ i, movedN n s rs st gr i ≠ []
  | 0 => by simp [movedN]
  | i + 1 => by
    have ih := moved_ne n s rs st gr i
    rw [movedN_succ]
    intro z
    have l := both_len (movedN n s rs st gr i) (goes n s rs st gr i)
    rw [z] at l
    have g0 : (goes n s rs st gr i).length ≠ 0 := by
      unfold goes
      split
      · have := wish_ne n s rs st (st.getD i 0)
        intro q
        exact this (List.eq_nil_of_length_eq_zero q)
      · simp
    have m0 : (movedN n s rs st gr i).length ≠ 0 := fun q => ih (List.eq_nil_of_length_eq_zero q)
    have : 0 < (movedN n s rs st gr i).length * (goes n s rs st gr i).length := Nat.mul_pos (by omega) (by omega)
    simp at l
    omega
theorem len_mem {st : List Int} (h1 : 1 ≤ st.length) (h4 : st.length ≤ 4) : st.length ∈ [1, 2, 3, 4] := by
  have : st.length = 1 ∨ st.length = 2 ∨ st.length = 3 ∨ st.length = 4 := by omega
  rcases this with z | z | z | z <;> rw [z] <;> decide
theorem acts_ne (n : Nat) (s : String) (rs : List (List Int × String)) {order : String} (ho : order ∈ orders) {st : List Int} (h1 : 1 ≤ st.length) (h4 : st.length ≤ 4) : actsL n s rs order st ≠ [] := by
  obtain ⟨_, hg, _⟩ := groups_some st.length (len_mem h1 h4) order ho
  obtain ⟨gr, r, eg⟩ := List.exists_cons_of_ne_nil hg
  obtain ⟨x, r2, ex⟩ := List.exists_cons_of_ne_nil (moved_ne n s rs st gr st.length)
  have hm : (gr, x) ∈ actsL n s rs order st := (acts_mem n s rs order st (gr, x)).mpr ⟨by rw [eg]; exact List.mem_cons_self, by
    show x ∈ movedN n s rs st gr st.length
    rw [ex]
    exact List.mem_cons_self⟩
  intro z
  rw [z] at hm
  cases hm
theorem acts_len (n : Nat) (s : String) (rs : List (List Int × String)) {order : String} (ho : order ∈ orders) {st : List Int} (h1 : 1 ≤ st.length) (h4 : st.length ≤ 4) : (actsL n s rs order st).length ≤ 240 := by
  unfold actsL
  rw [sortL_len]
  have := akeys_len n s rs st h4 (groupsL st.length order) []
  have := (groups_some st.length (len_mem h1 h4) order ho).1
  simp only [List.length_nil] at *
  omega
/-- one pick -/
def pickL (n : Nat) (s : String) (rs : List (List Int × String)) (order : String) (q : List (List Int × List Int) × List Int) (p : Nat) : List (List Int × List Int) × List Int :=
  (q.1 ++ [(actsL n s rs order q.2).getD (p % (actsL n s rs order q.2).length) ([], [])], ((actsL n s rs order q.2).getD (p % (actsL n s rs order q.2).length) ([], [])).2)
def playedL (n : Nat) (s : String) (rs : List (List Int × String)) (order : String) (st : List Int) (ps : List Nat) : List (List Int × List Int) := (ps.foldl (pickL n s rs order) ([], st)).1
theorem list_ix {α : Type} (f : α → PyData) {xs : List α} {i : Nat} {x : α} (h : xs[i]? = some x) : ixD (.list (xs.map f)) (.int i) = some (f x) := by
  refine L2.atI_nat (j := i) ?_
  rw [List.getElem?_map, h]
  rfl
theorem list_last {α : Type} (f : α → PyData) (xs : List α) (x : α) : L2.atI ((xs ++ [x]).map f) (-1) = some (f x) := by
  rw [List.map_append]
  exact L2.atI_last _ _
theorem getD_at {α : Type} {xs : List α} {i : Nat} (h : i < xs.length) (d : α) : xs[i]? = some (xs.getD i d) := by
  rw [List.getD_eq_getElem?_getD, List.getElem?_eq_getElem h]
  rfl
section
variable {g : Str → Option PyData} {tab : Str → Option Df} {k : Nat}
/-- a turn of the loop, in the program and in the law -/
theorem pick_ok {n : Nat} {s : String} {rs : List (List Int × String)} {order : String} (ho : order ∈ orders) {st : List Int} (hs : IsS n st) (p : Nat) :
    binD .Mod (.int p) (.int ((((actsL n s rs order st).map (e : List Int × List Int → PyData)).length : Nat) : Int)) = some (.int ((p % (actsL n s rs order st).length : Nat) : Int)) ∧
    ixD (.list ((actsL n s rs order st).map e)) (.int ((p % (actsL n s rs order st).length : Nat) : Int)) = some (e ((actsL n s rs order st).getD (p % (actsL n s rs order st).length) ([], []))) := by
  have hne := acts_ne n s rs ho hs.lo hs.hi
  have hpos : 0 < (actsL n s rs order st).length := by
    cases h : actsL n s rs order st with
    | nil => exact absurd h hne
    | cons a b => simp
  constructor
  · rw [List.length_map]
    have z := mod_n hpos (p : Int)
    rw [z]
    rfl
  · exact list_ix e (getD_at (Nat.mod_lt _ hpos) _)
theorem pick_stand {n : Nat} (hn : 0 < n) {s : String} {rs : List (List Int × String)} {order : String} (ho : order ∈ orders) {st : List Int} (hs : IsS n st) (p : Nat) : IsS n ((actsL n s rs order st).getD (p % (actsL n s rs order st).length) ([], [])).2 := by
  have hne := acts_ne n s rs ho hs.lo hs.hi
  have hpos : 0 < (actsL n s rs order st).length := by
    cases h : actsL n s rs order st with
    | nil => exact absurd h hne
    | cons a b => simp
  exact (acts_stand hn hs (List.mem_of_getElem? (getD_at (Nat.mod_lt _ hpos) ([], [])))).1
theorem act_snd (x : List Int × List Int) : ixD (e x) (.int 1) = some (iT x.2) := L2.atI_nat (j := 1) rfl
structure BaseP (g : Str → Option PyData) (tab : Str → Option Df) : Prop extends BaseA g tab where
  played : tab (Str.ofString "played") = some d_played
theorem picks_comp {f : Str → List PyData → Res PyData} (hw : ∀ x : PyData, (∀ q, x ≠ .dict q) → f (Str.ofString "is_within") [x, .int 0, .int 9999] = .ok (.bool (within x 0 9999))) (xs : List PyData) (hx : ∀ x ∈ xs, ∀ q, x ≠ .dict q) (hl : xs.length ≤ 1000) (a b c d o : Option Sl) :
    ev g f c_played_0 [a, b, c, some (.sh (.list xs)), d, none, o] = .ok (.list ((xs.filter fun x => !within x 0 9999))) := by
  have z := lc_filter (g := g) (f := f) (t := .one 5) (it := .seq (.var 3)) (c := .nt (.call (Str.ofString "is_within") (.cons (.var 5) (.cons (.int 0) (.cons (.int 9999) .nil))))) (el := .var 5) (δ := [a, b, c, some (.sh (.list xs)), d, none, o]) (ea := id) (eb := id) (fun x => !within x 0 9999) id xs (by simp only [Q.var, Q.int, Q.neg, Q.str, Q.bl, Q.non, Q.glob, Q.tup, Q.lst, Q.bin, Q.cmp, Q.chain, Q.inG, Q.nt, Q.bop, Q.ite, Q.ix, Q.sl, Q.tl0, Q.rev, Q.disp, Q.call, Q.bi1, Q.mn2, Q.isi, Q.cnt, Q.tupRg, Q.lstRg, Q.lenO, Q.ixO, Q.nil, Q.cons, Q.b1, Q.and2, Q.or2, Q.no, Q.some_, Q.seq, Q.rng1, Q.rng2, Q.enm, bind_ok, bind_err, rofO_some, Option.map_some, truth, List.getElem?_cons_succ, List.getElem?_cons_zero, len_le0, len_le1, len_le2, len_le3, len_le4, len_le5, limN0, limN1, limN2, limN3, limN4, limN5, if_true, if_false, entry, List.map_cons, List.map_nil, List.replicate, WT, lcT, setT1, setT2, setT3, wipe1, wipe2, wipe3, Q.cno, Q.csome, List.set_cons_zero, List.set_cons_succ, cmpE, cmpN, cmpLtI, cmpLeI, cmpGtI, cmpGeI, cmpInL, cmpInT, cmpNiL, cmpNiT, addI, subI, lenL, lenT, tupL, lstT, lstL, isiLL, isiTT, isiBB, isiII, isiSS, List.map_id]) (lim_of (by omega)) fun x hxm => by
    simp only [Q.var, Q.int, Q.neg, Q.str, Q.bl, Q.non, Q.glob, Q.tup, Q.lst, Q.bin, Q.cmp, Q.chain, Q.inG, Q.nt, Q.bop, Q.ite, Q.ix, Q.sl, Q.tl0, Q.rev, Q.disp, Q.call, Q.bi1, Q.mn2, Q.isi, Q.cnt, Q.tupRg, Q.lstRg, Q.lenO, Q.ixO, Q.nil, Q.cons, Q.b1, Q.and2, Q.or2, Q.no, Q.some_, Q.seq, Q.rng1, Q.rng2, Q.enm, bind_ok, bind_err, rofO_some, Option.map_some, truth, List.getElem?_cons_succ, List.getElem?_cons_zero, len_le0, len_le1, len_le2, len_le3, len_le4, len_le5, limN0, limN1, limN2, limN3, limN4, limN5, if_true, if_false, entry, List.map_cons, List.map_nil, List.replicate, WT, lcT, setT1, setT2, setT3, wipe1, wipe2, wipe3, Q.cno, Q.csome, List.set_cons_zero, List.set_cons_succ, cmpE, cmpN, cmpLtI, cmpLeI, cmpGtI, cmpGeI, cmpInL, cmpInT, cmpNiL, cmpNiT, addI, subI, lenL, lenT, tupL, lstT, lstL, isiLL, isiTT, isiBB, isiII, isiSS, id, hw x (hx x hxm)]
  rw [List.map_id, List.map_id] at z
  exact z
theorem played_ok (B : BaseP g tab) (hk : 7 ≤ k) {n : Nat} {s : String} {rs : List (List Int × String)} (hb : IsB n s rs) {st : List Int} (hs : IsS n st) {order : String} (ho : order ∈ orders) (ps : List Nat) (hp : ∀ p ∈ ps, p ≤ 9999) (hl : ps.length ≤ 1000) :
    run g tab k (Str.ofString "played") [bookT n s rs, iT st, .str (Str.ofString order), .list (ps.map fun (p : Nat) => .int p)] = .ok (.list ((playedL n s rs order st ps).map e)) := by
  have hn : 0 < n := by have := hb.lo; omega
  have hn2 : n ≤ 1000 := by have := hb.hi; omega
  refine run_W B.played (by omega) rfl ?_
  have e1 := look_acts_ok (g := g) (k := k - 1) B.toBaseA (by omega) hb hs ho
  have e2 := picks_comp (g := g) (f := run g tab (k - 1)) (fun x hx => levR 1 (fun k => is_within_ok B.is_within x 0 9999 hx) (by omega)) (ps.map fun (p : Nat) => .int p) (fun x hx q z => by
    obtain ⟨p, _, rfl⟩ := List.mem_map.mp hx
    cases z) (by rw [List.length_map]; exact hl)
  have e3 : ((ps.map fun (p : Nat) => PyData.int p).filter fun x => !within x 0 9999) = [] := by
    rw [List.filter_eq_nil_iff]
    intro x hx
    obtain ⟨p, hpm, rfl⟩ := List.mem_map.mp hx
    have := hp p hpm
    simp [within]
    omega
  rw [e3] at e2
  simp only [d_played, Q.var, Q.int, Q.neg, Q.str, Q.bl, Q.non, Q.glob, Q.tup, Q.lst, Q.bin, Q.cmp, Q.chain, Q.inG, Q.nt, Q.bop, Q.ite, Q.ix, Q.sl, Q.tl0, Q.rev, Q.disp, Q.call, Q.bi1, Q.mn2, Q.isi, Q.cnt, Q.tupRg, Q.lstRg, Q.lenO, Q.ixO, Q.nil, Q.cons, Q.b1, Q.and2, Q.or2, Q.no, Q.some_, Q.seq, Q.rng1, Q.rng2, Q.enm, bind_ok, bind_err, rofO_some, Option.map_some, truth, List.getElem?_cons_succ, List.getElem?_cons_zero, len_le0, len_le1, len_le2, len_le3, len_le4, len_le5, limN0, limN1, limN2, limN3, limN4, limN5, if_true, if_false, entry, List.map_cons, List.map_nil, List.replicate, WT, lcT, setT1, setT2, setT3, wipe1, wipe2, wipe3, Q.cno, Q.csome, List.set_cons_zero, List.set_cons_succ, cmpE, cmpN, cmpLtI, cmpLeI, cmpGtI, cmpGeI, cmpInL, cmpInT, cmpNiL, cmpNiT, addI, subI, lenL, lenT, tupL, lstT, lstL, isiLL, isiTT, isiBB, isiII, isiSS, W_nil, W_set, W_setT, W_newL, W_newD, W_app, W_ext, W_dput, W_expr, W_ret, W_retN, W_raise, W_ite, W_frz, setK_ok, setK_err, oevK_some, setTK_ok, setTK_err, ifK_true, newLK_ok, appK_is, appK2_ok, appK2_err, extK_is, extK2_ok, extK2_err, dputK_ok, dputK_err, dputK2_is, dputK3_ok, exprK_ok, exprK_err, retK_ok, retK_err, iteK_ok, iteK_err, tstK_true, tstK_false, tstK_not, tstK_dec, frzK_is, slot, List.cons_append, List.nil_append, retO, e1, e2, Bool.not_true, List.isEmpty_nil]
  refine W_fold (enc := fun (p : Nat) => PyData.int p) (fun (q : List (List Int × List Int) × List Int) (j : Option Sl × Option Sl) => [some (.sh (bookT n s rs)), some (.sh (iT q.2)), some (.sh (.str (Str.ofString order))), some (.sh (.list (ps.map fun (p : Nat) => .int p))), some (.own (.list (q.1.map e))), j.1, j.2])
    (pickL n s rs order) (fun i q => q.1.length = i ∧ IsS n q.2) ps ([], st) (none, none) (by simp only [Q.var, Q.int, Q.neg, Q.str, Q.bl, Q.non, Q.glob, Q.tup, Q.lst, Q.bin, Q.cmp, Q.chain, Q.inG, Q.nt, Q.bop, Q.ite, Q.ix, Q.sl, Q.tl0, Q.rev, Q.disp, Q.call, Q.bi1, Q.mn2, Q.isi, Q.cnt, Q.tupRg, Q.lstRg, Q.lenO, Q.ixO, Q.nil, Q.cons, Q.b1, Q.and2, Q.or2, Q.no, Q.some_, Q.seq, Q.rng1, Q.rng2, Q.enm, bind_ok, bind_err, rofO_some, Option.map_some, truth, List.getElem?_cons_succ, List.getElem?_cons_zero, len_le0, len_le1, len_le2, len_le3, len_le4, len_le5, limN0, limN1, limN2, limN3, limN4, limN5, if_true, if_false, entry, List.map_cons, List.map_nil, List.replicate, WT, lcT, setT1, setT2, setT3, wipe1, wipe2, wipe3, Q.cno, Q.csome, List.set_cons_zero, List.set_cons_succ, cmpE, cmpN, cmpLtI, cmpLeI, cmpGtI, cmpGeI, cmpInL, cmpInT, cmpNiL, cmpNiT, addI, subI, lenL, lenT, tupL, lstT, lstL, isiLL, isiTT, isiBB, isiII, isiSS]) ⟨rfl, hs⟩ (fun i q j p hx hI => ?_) (fun j hI => ?_)
  · obtain ⟨hI1, hI2⟩ := hI
    have hi := at_lt hx
    have a1 := acts_from_ok (g := g) (k := k - 1) B.toBaseA (by omega) hn hn2 s rs q.2 hI2.lo hI2.hi ho
    obtain ⟨m1, m2⟩ := pick_ok (s := s) (rs := rs) ho hI2 p
    have m3 := pick_stand hn (s := s) (rs := rs) ho hI2 p
    refine ⟨⟨by simp [pickL, hI1], m3⟩, ?_⟩
    have z : (q.1.map (e : List Int × List Int → PyData)).length < lim := lim_lt' (by rw [List.length_map]; omega)
    unfold pickL
    generalize (actsL n s rs order q.2).getD (p % (actsL n s rs order q.2).length) ([], []) = x at m2 ⊢
    have la : L2.atI (q.1.map e ++ [e x]) (-1) = some (e x) := L2.atI_last _ _
    simp only [b_played_0, Q.var, Q.int, Q.neg, Q.str, Q.bl, Q.non, Q.glob, Q.tup, Q.lst, Q.bin, Q.cmp, Q.chain, Q.inG, Q.nt, Q.bop, Q.ite, Q.ix, Q.sl, Q.tl0, Q.rev, Q.disp, Q.call, Q.bi1, Q.mn2, Q.isi, Q.cnt, Q.tupRg, Q.lstRg, Q.lenO, Q.ixO, Q.nil, Q.cons, Q.b1, Q.and2, Q.or2, Q.no, Q.some_, Q.seq, Q.rng1, Q.rng2, Q.enm, bind_ok, bind_err, rofO_some, Option.map_some, truth, List.getElem?_cons_succ, List.getElem?_cons_zero, len_le0, len_le1, len_le2, len_le3, len_le4, len_le5, limN0, limN1, limN2, limN3, limN4, limN5, if_true, if_false, entry, List.map_cons, List.map_nil, List.replicate, WT, lcT, setT1, setT2, setT3, wipe1, wipe2, wipe3, Q.cno, Q.csome, List.set_cons_zero, List.set_cons_succ, cmpE, cmpN, cmpLtI, cmpLeI, cmpGtI, cmpGeI, cmpInL, cmpInT, cmpNiL, cmpNiT, addI, subI, lenL, lenT, tupL, lstT, lstL, isiLL, isiTT, isiBB, isiII, isiSS, W_nil, W_set, W_setT, W_newL, W_newD, W_app, W_ext, W_dput, W_expr, W_ret, W_retN, W_raise, W_ite, W_frz, setK_ok, setK_err, oevK_some, setTK_ok, setTK_err, ifK_true, newLK_ok, appK_is, appK2_ok, appK2_err, extK_is, extK2_ok, extK2_err, dputK_ok, dputK_err, dputK2_is, dputK3_ok, exprK_ok, exprK_err, retK_ok, retK_err, iteK_ok, iteK_err, tstK_true, tstK_false, tstK_not, tstK_dec, frzK_is, slot, List.cons_append, List.nil_append, retO, a1, m1, m2, ifK_pos z, la, act_snd]
    exact ⟨(_, _), .inl (by rw [List.map_append]; rfl)⟩
  · simp only [Q.var, Q.int, Q.neg, Q.str, Q.bl, Q.non, Q.glob, Q.tup, Q.lst, Q.bin, Q.cmp, Q.chain, Q.inG, Q.nt, Q.bop, Q.ite, Q.ix, Q.sl, Q.tl0, Q.rev, Q.disp, Q.call, Q.bi1, Q.mn2, Q.isi, Q.cnt, Q.tupRg, Q.lstRg, Q.lenO, Q.ixO, Q.nil, Q.cons, Q.b1, Q.and2, Q.or2, Q.no, Q.some_, Q.seq, Q.rng1, Q.rng2, Q.enm, bind_ok, bind_err, rofO_some, Option.map_some, truth, List.getElem?_cons_succ, List.getElem?_cons_zero, len_le0, len_le1, len_le2, len_le3, len_le4, len_le5, limN0, limN1, limN2, limN3, limN4, limN5, if_true, if_false, entry, List.map_cons, List.map_nil, List.replicate, WT, lcT, setT1, setT2, setT3, wipe1, wipe2, wipe3, Q.cno, Q.csome, List.set_cons_zero, List.set_cons_succ, cmpE, cmpN, cmpLtI, cmpLeI, cmpGtI, cmpGeI, cmpInL, cmpInT, cmpNiL, cmpNiT, addI, subI, lenL, lenT, tupL, lstT, lstL, isiLL, isiTT, isiBB, isiII, isiSS, W_nil, W_set, W_setT, W_newL, W_newD, W_app, W_ext, W_dput, W_expr, W_ret, W_retN, W_raise, W_ite, W_frz, setK_ok, setK_err, oevK_some, setTK_ok, setTK_err, ifK_true, newLK_ok, appK_is, appK2_ok, appK2_err, extK_is, extK2_ok, extK2_err, dputK_ok, dputK_err, dputK2_is, dputK3_ok, exprK_ok, exprK_err, retK_ok, retK_err, iteK_ok, iteK_err, tstK_true, tstK_false, tstK_not, tstK_dec, frzK_is, slot, List.cons_append, List.nil_append, retO]
    rfl
end
end Rh

set_option Elab.async false
set_option linter.all false
set_option maxRecDepth 100000
set_option maxHeartbeats 4000000
/-! Law k06. -/
namespace Rh
open PySem (PyData Str)
open Enc (e)
open Ord' (lt ok)
open Cd
def orderOf (w : Nat) : String := orders.getD w "one"
theorem order_in (w : Nat) : orderOf w ∈ orders := by
  unfold orderOf
  by_cases h : w < orders.length
  · rw [List.getD_eq_getElem?_getD, List.getElem?_eq_getElem h]
    exact List.getElem_mem h
  · rw [List.getD_eq_getElem?_getD, List.getElem?_eq_none (by omega)]
    decide
theorem order_ix {w : Nat} (h : w < 3) : ixD (.list [.str (Str.ofString "one"), .str (Str.ofString "some"), .str (Str.ofString "all")]) (.int w) = some (.str (Str.ofString (orderOf w))) := by
  have z := list_ix (fun s : String => PyData.str (Str.ofString s)) (xs := orders) (i := w) (x := orderOf w) (getD_at (show w < orders.length from h) _)
  exact z
theorem mod_lit (c : Int) (m : Nat) (hm : 0 < m) {z : Int} (hz : z = m) : ∃ j : Nat, j < m ∧ c % (m : Int) = j ∧ binD .Mod (.int c) (.int z) = some (.int j) := by
  obtain ⟨j, h1, h2⟩ := mod_nat c hm
  refine ⟨j, h2, h1, ?_⟩
  have := mod_n hm c
  rw [h1] at this
  rw [hz]
  exact this
theorem mul_lit (a : Int) (j : Nat) (ha : 0 ≤ a ∧ a ≤ 1000) (hj : j ≤ 1000) : binD .Mult (.int a) (.int j) = some (.int (a * j)) := mulI (mulOk_iff.mpr (.inl (by omega)))
section
variable {g : Str → Option PyData} {tab : Str → Option Df} {k : Nat}
/-- things that are no picks -/
def oddPicks : List PyData := [.none, .tuple [.int 1], .int 7, .list [.none], .list [.int (-1)], .list [.int 10000], .list [.bool true], .list [.str (Str.ofString "1")]]
theorem played_odd (B : BaseP g tab) (hk : 7 ≤ k) {n : Nat} {s : String} {rs : List (List Int × String)} (hb : IsB n s rs) {st : List Int} (hs : IsS n st) {order : String} (ho : order ∈ orders) {x : PyData} (hx : x ∈ oddPicks) :
    run g tab k (Str.ofString "played") [bookT n s rs, iT st, .str (Str.ofString order), x] = .err (Str.ofString "BadPicks") := by
  refine run_W B.played (by omega) rfl ?_
  have e1 := look_acts_ok (g := g) (k := k - 1) B.toBaseA (by omega) hb hs ho
  have e2 := fun (xs : List PyData) (hx : ∀ x ∈ xs, ∀ q, x ≠ .dict q) (hl : xs.length ≤ 1000) => picks_comp (g := g) (f := run g tab (k - 1)) (fun x hx => levR 1 (fun k => is_within_ok B.is_within x 0 9999 hx) (by omega)) xs hx hl
  have one : ∀ y : PyData, (∀ q, y ≠ .dict q) → within y 0 9999 = false → ∀ a b c d o, ev g (run g tab (k - 1)) c_played_0 [a, b, c, some (.sh (.list [y])), d, none, o] = .ok (.list [y]) := by
    intro y hy hw a b c d o
    have z := e2 [y] (fun x hx => by rw [List.mem_singleton.mp hx]; exact hy) (by simp) a b c d o
    rw [z]
    simp [hw]
  have i1 : isiD "list" .none = some false := rfl
  have i2 : ∀ xs, isiD "list" (.tuple xs) = some false := fun _ => rfl
  have i3 : ∀ i, isiD "list" (.int i) = some false := fun _ => rfl
  simp only [oddPicks, List.mem_cons, List.not_mem_nil, or_false] at hx
  rcases hx with rfl | rfl | rfl | rfl | rfl | rfl | rfl | rfl
  · simp only [d_played, Q.var, Q.int, Q.neg, Q.str, Q.bl, Q.non, Q.glob, Q.tup, Q.lst, Q.bin, Q.cmp, Q.chain, Q.inG, Q.nt, Q.bop, Q.ite, Q.ix, Q.sl, Q.tl0, Q.rev, Q.disp, Q.call, Q.bi1, Q.mn2, Q.isi, Q.cnt, Q.tupRg, Q.lstRg, Q.lenO, Q.ixO, Q.nil, Q.cons, Q.b1, Q.and2, Q.or2, Q.no, Q.some_, Q.seq, Q.rng1, Q.rng2, Q.enm, bind_ok, bind_err, rofO_some, Option.map_some, truth, List.getElem?_cons_succ, List.getElem?_cons_zero, len_le0, len_le1, len_le2, len_le3, len_le4, len_le5, limN0, limN1, limN2, limN3, limN4, limN5, if_true, if_false, entry, List.map_cons, List.map_nil, List.replicate, WT, lcT, setT1, setT2, setT3, wipe1, wipe2, wipe3, Q.cno, Q.csome, List.set_cons_zero, List.set_cons_succ, cmpE, cmpN, cmpLtI, cmpLeI, cmpGtI, cmpGeI, cmpInL, cmpInT, cmpNiL, cmpNiT, addI, subI, lenL, lenT, tupL, lstT, lstL, isiLL, isiTT, isiBB, isiII, isiSS, W_nil, W_set, W_setT, W_newL, W_newD, W_app, W_ext, W_dput, W_expr, W_ret, W_retN, W_raise, W_ite, W_frz, setK_ok, setK_err, oevK_some, setTK_ok, setTK_err, ifK_true, newLK_ok, appK_is, appK2_ok, appK2_err, extK_is, extK2_ok, extK2_err, dputK_ok, dputK_err, dputK2_is, dputK3_ok, exprK_ok, exprK_err, retK_ok, retK_err, iteK_ok, iteK_err, tstK_true, tstK_false, tstK_not, tstK_dec, frzK_is, slot, List.cons_append, List.nil_append, retO, e1, i1, Bool.not_false]
  · simp only [d_played, Q.var, Q.int, Q.neg, Q.str, Q.bl, Q.non, Q.glob, Q.tup, Q.lst, Q.bin, Q.cmp, Q.chain, Q.inG, Q.nt, Q.bop, Q.ite, Q.ix, Q.sl, Q.tl0, Q.rev, Q.disp, Q.call, Q.bi1, Q.mn2, Q.isi, Q.cnt, Q.tupRg, Q.lstRg, Q.lenO, Q.ixO, Q.nil, Q.cons, Q.b1, Q.and2, Q.or2, Q.no, Q.some_, Q.seq, Q.rng1, Q.rng2, Q.enm, bind_ok, bind_err, rofO_some, Option.map_some, truth, List.getElem?_cons_succ, List.getElem?_cons_zero, len_le0, len_le1, len_le2, len_le3, len_le4, len_le5, limN0, limN1, limN2, limN3, limN4, limN5, if_true, if_false, entry, List.map_cons, List.map_nil, List.replicate, WT, lcT, setT1, setT2, setT3, wipe1, wipe2, wipe3, Q.cno, Q.csome, List.set_cons_zero, List.set_cons_succ, cmpE, cmpN, cmpLtI, cmpLeI, cmpGtI, cmpGeI, cmpInL, cmpInT, cmpNiL, cmpNiT, addI, subI, lenL, lenT, tupL, lstT, lstL, isiLL, isiTT, isiBB, isiII, isiSS, W_nil, W_set, W_setT, W_newL, W_newD, W_app, W_ext, W_dput, W_expr, W_ret, W_retN, W_raise, W_ite, W_frz, setK_ok, setK_err, oevK_some, setTK_ok, setTK_err, ifK_true, newLK_ok, appK_is, appK2_ok, appK2_err, extK_is, extK2_ok, extK2_err, dputK_ok, dputK_err, dputK2_is, dputK3_ok, exprK_ok, exprK_err, retK_ok, retK_err, iteK_ok, iteK_err, tstK_true, tstK_false, tstK_not, tstK_dec, frzK_is, slot, List.cons_append, List.nil_append, retO, e1, i2, Bool.not_false]
  · simp only [d_played, Q.var, Q.int, Q.neg, Q.str, Q.bl, Q.non, Q.glob, Q.tup, Q.lst, Q.bin, Q.cmp, Q.chain, Q.inG, Q.nt, Q.bop, Q.ite, Q.ix, Q.sl, Q.tl0, Q.rev, Q.disp, Q.call, Q.bi1, Q.mn2, Q.isi, Q.cnt, Q.tupRg, Q.lstRg, Q.lenO, Q.ixO, Q.nil, Q.cons, Q.b1, Q.and2, Q.or2, Q.no, Q.some_, Q.seq, Q.rng1, Q.rng2, Q.enm, bind_ok, bind_err, rofO_some, Option.map_some, truth, List.getElem?_cons_succ, List.getElem?_cons_zero, len_le0, len_le1, len_le2, len_le3, len_le4, len_le5, limN0, limN1, limN2, limN3, limN4, limN5, if_true, if_false, entry, List.map_cons, List.map_nil, List.replicate, WT, lcT, setT1, setT2, setT3, wipe1, wipe2, wipe3, Q.cno, Q.csome, List.set_cons_zero, List.set_cons_succ, cmpE, cmpN, cmpLtI, cmpLeI, cmpGtI, cmpGeI, cmpInL, cmpInT, cmpNiL, cmpNiT, addI, subI, lenL, lenT, tupL, lstT, lstL, isiLL, isiTT, isiBB, isiII, isiSS, W_nil, W_set, W_setT, W_newL, W_newD, W_app, W_ext, W_dput, W_expr, W_ret, W_retN, W_raise, W_ite, W_frz, setK_ok, setK_err, oevK_some, setTK_ok, setTK_err, ifK_true, newLK_ok, appK_is, appK2_ok, appK2_err, extK_is, extK2_ok, extK2_err, dputK_ok, dputK_err, dputK2_is, dputK3_ok, exprK_ok, exprK_err, retK_ok, retK_err, iteK_ok, iteK_err, tstK_true, tstK_false, tstK_not, tstK_dec, frzK_is, slot, List.cons_append, List.nil_append, retO, e1, i3, Bool.not_false]
  · simp only [d_played, Q.var, Q.int, Q.neg, Q.str, Q.bl, Q.non, Q.glob, Q.tup, Q.lst, Q.bin, Q.cmp, Q.chain, Q.inG, Q.nt, Q.bop, Q.ite, Q.ix, Q.sl, Q.tl0, Q.rev, Q.disp, Q.call, Q.bi1, Q.mn2, Q.isi, Q.cnt, Q.tupRg, Q.lstRg, Q.lenO, Q.ixO, Q.nil, Q.cons, Q.b1, Q.and2, Q.or2, Q.no, Q.some_, Q.seq, Q.rng1, Q.rng2, Q.enm, bind_ok, bind_err, rofO_some, Option.map_some, truth, List.getElem?_cons_succ, List.getElem?_cons_zero, len_le0, len_le1, len_le2, len_le3, len_le4, len_le5, limN0, limN1, limN2, limN3, limN4, limN5, if_true, if_false, entry, List.map_cons, List.map_nil, List.replicate, WT, lcT, setT1, setT2, setT3, wipe1, wipe2, wipe3, Q.cno, Q.csome, List.set_cons_zero, List.set_cons_succ, cmpE, cmpN, cmpLtI, cmpLeI, cmpGtI, cmpGeI, cmpInL, cmpInT, cmpNiL, cmpNiT, addI, subI, lenL, lenT, tupL, lstT, lstL, isiLL, isiTT, isiBB, isiII, isiSS, W_nil, W_set, W_setT, W_newL, W_newD, W_app, W_ext, W_dput, W_expr, W_ret, W_retN, W_raise, W_ite, W_frz, setK_ok, setK_err, oevK_some, setTK_ok, setTK_err, ifK_true, newLK_ok, appK_is, appK2_ok, appK2_err, extK_is, extK2_ok, extK2_err, dputK_ok, dputK_err, dputK2_is, dputK3_ok, exprK_ok, exprK_err, retK_ok, retK_err, iteK_ok, iteK_err, tstK_true, tstK_false, tstK_not, tstK_dec, frzK_is, slot, List.cons_append, List.nil_append, retO, e1, one .none (fun q z => by cases z) rfl, Bool.not_true, List.isEmpty_cons, Bool.not_false]
  · simp only [d_played, Q.var, Q.int, Q.neg, Q.str, Q.bl, Q.non, Q.glob, Q.tup, Q.lst, Q.bin, Q.cmp, Q.chain, Q.inG, Q.nt, Q.bop, Q.ite, Q.ix, Q.sl, Q.tl0, Q.rev, Q.disp, Q.call, Q.bi1, Q.mn2, Q.isi, Q.cnt, Q.tupRg, Q.lstRg, Q.lenO, Q.ixO, Q.nil, Q.cons, Q.b1, Q.and2, Q.or2, Q.no, Q.some_, Q.seq, Q.rng1, Q.rng2, Q.enm, bind_ok, bind_err, rofO_some, Option.map_some, truth, List.getElem?_cons_succ, List.getElem?_cons_zero, len_le0, len_le1, len_le2, len_le3, len_le4, len_le5, limN0, limN1, limN2, limN3, limN4, limN5, if_true, if_false, entry, List.map_cons, List.map_nil, List.replicate, WT, lcT, setT1, setT2, setT3, wipe1, wipe2, wipe3, Q.cno, Q.csome, List.set_cons_zero, List.set_cons_succ, cmpE, cmpN, cmpLtI, cmpLeI, cmpGtI, cmpGeI, cmpInL, cmpInT, cmpNiL, cmpNiT, addI, subI, lenL, lenT, tupL, lstT, lstL, isiLL, isiTT, isiBB, isiII, isiSS, W_nil, W_set, W_setT, W_newL, W_newD, W_app, W_ext, W_dput, W_expr, W_ret, W_retN, W_raise, W_ite, W_frz, setK_ok, setK_err, oevK_some, setTK_ok, setTK_err, ifK_true, newLK_ok, appK_is, appK2_ok, appK2_err, extK_is, extK2_ok, extK2_err, dputK_ok, dputK_err, dputK2_is, dputK3_ok, exprK_ok, exprK_err, retK_ok, retK_err, iteK_ok, iteK_err, tstK_true, tstK_false, tstK_not, tstK_dec, frzK_is, slot, List.cons_append, List.nil_append, retO, e1, one (.int (-1)) (fun q z => by cases z) rfl, Bool.not_true, List.isEmpty_cons, Bool.not_false]
  · simp only [d_played, Q.var, Q.int, Q.neg, Q.str, Q.bl, Q.non, Q.glob, Q.tup, Q.lst, Q.bin, Q.cmp, Q.chain, Q.inG, Q.nt, Q.bop, Q.ite, Q.ix, Q.sl, Q.tl0, Q.rev, Q.disp, Q.call, Q.bi1, Q.mn2, Q.isi, Q.cnt, Q.tupRg, Q.lstRg, Q.lenO, Q.ixO, Q.nil, Q.cons, Q.b1, Q.and2, Q.or2, Q.no, Q.some_, Q.seq, Q.rng1, Q.rng2, Q.enm, bind_ok, bind_err, rofO_some, Option.map_some, truth, List.getElem?_cons_succ, List.getElem?_cons_zero, len_le0, len_le1, len_le2, len_le3, len_le4, len_le5, limN0, limN1, limN2, limN3, limN4, limN5, if_true, if_false, entry, List.map_cons, List.map_nil, List.replicate, WT, lcT, setT1, setT2, setT3, wipe1, wipe2, wipe3, Q.cno, Q.csome, List.set_cons_zero, List.set_cons_succ, cmpE, cmpN, cmpLtI, cmpLeI, cmpGtI, cmpGeI, cmpInL, cmpInT, cmpNiL, cmpNiT, addI, subI, lenL, lenT, tupL, lstT, lstL, isiLL, isiTT, isiBB, isiII, isiSS, W_nil, W_set, W_setT, W_newL, W_newD, W_app, W_ext, W_dput, W_expr, W_ret, W_retN, W_raise, W_ite, W_frz, setK_ok, setK_err, oevK_some, setTK_ok, setTK_err, ifK_true, newLK_ok, appK_is, appK2_ok, appK2_err, extK_is, extK2_ok, extK2_err, dputK_ok, dputK_err, dputK2_is, dputK3_ok, exprK_ok, exprK_err, retK_ok, retK_err, iteK_ok, iteK_err, tstK_true, tstK_false, tstK_not, tstK_dec, frzK_is, slot, List.cons_append, List.nil_append, retO, e1, one (.int 10000) (fun q z => by cases z) rfl, Bool.not_true, List.isEmpty_cons, Bool.not_false]
  · simp only [d_played, Q.var, Q.int, Q.neg, Q.str, Q.bl, Q.non, Q.glob, Q.tup, Q.lst, Q.bin, Q.cmp, Q.chain, Q.inG, Q.nt, Q.bop, Q.ite, Q.ix, Q.sl, Q.tl0, Q.rev, Q.disp, Q.call, Q.bi1, Q.mn2, Q.isi, Q.cnt, Q.tupRg, Q.lstRg, Q.lenO, Q.ixO, Q.nil, Q.cons, Q.b1, Q.and2, Q.or2, Q.no, Q.some_, Q.seq, Q.rng1, Q.rng2, Q.enm, bind_ok, bind_err, rofO_some, Option.map_some, truth, List.getElem?_cons_succ, List.getElem?_cons_zero, len_le0, len_le1, len_le2, len_le3, len_le4, len_le5, limN0, limN1, limN2, limN3, limN4, limN5, if_true, if_false, entry, List.map_cons, List.map_nil, List.replicate, WT, lcT, setT1, setT2, setT3, wipe1, wipe2, wipe3, Q.cno, Q.csome, List.set_cons_zero, List.set_cons_succ, cmpE, cmpN, cmpLtI, cmpLeI, cmpGtI, cmpGeI, cmpInL, cmpInT, cmpNiL, cmpNiT, addI, subI, lenL, lenT, tupL, lstT, lstL, isiLL, isiTT, isiBB, isiII, isiSS, W_nil, W_set, W_setT, W_newL, W_newD, W_app, W_ext, W_dput, W_expr, W_ret, W_retN, W_raise, W_ite, W_frz, setK_ok, setK_err, oevK_some, setTK_ok, setTK_err, ifK_true, newLK_ok, appK_is, appK2_ok, appK2_err, extK_is, extK2_ok, extK2_err, dputK_ok, dputK_err, dputK2_is, dputK3_ok, exprK_ok, exprK_err, retK_ok, retK_err, iteK_ok, iteK_err, tstK_true, tstK_false, tstK_not, tstK_dec, frzK_is, slot, List.cons_append, List.nil_append, retO, e1, one (.bool true) (fun q z => by cases z) rfl, Bool.not_true, List.isEmpty_cons, Bool.not_false]
  · simp only [d_played, Q.var, Q.int, Q.neg, Q.str, Q.bl, Q.non, Q.glob, Q.tup, Q.lst, Q.bin, Q.cmp, Q.chain, Q.inG, Q.nt, Q.bop, Q.ite, Q.ix, Q.sl, Q.tl0, Q.rev, Q.disp, Q.call, Q.bi1, Q.mn2, Q.isi, Q.cnt, Q.tupRg, Q.lstRg, Q.lenO, Q.ixO, Q.nil, Q.cons, Q.b1, Q.and2, Q.or2, Q.no, Q.some_, Q.seq, Q.rng1, Q.rng2, Q.enm, bind_ok, bind_err, rofO_some, Option.map_some, truth, List.getElem?_cons_succ, List.getElem?_cons_zero, len_le0, len_le1, len_le2, len_le3, len_le4, len_le5, limN0, limN1, limN2, limN3, limN4, limN5, if_true, if_false, entry, List.map_cons, List.map_nil, List.replicate, WT, lcT, setT1, setT2, setT3, wipe1, wipe2, wipe3, Q.cno, Q.csome, List.set_cons_zero, List.set_cons_succ, cmpE, cmpN, cmpLtI, cmpLeI, cmpGtI, cmpGeI, cmpInL, cmpInT, cmpNiL, cmpNiT, addI, subI, lenL, lenT, tupL, lstT, lstL, isiLL, isiTT, isiBB, isiII, isiSS, W_nil, W_set, W_setT, W_newL, W_newD, W_app, W_ext, W_dput, W_expr, W_ret, W_retN, W_raise, W_ite, W_frz, setK_ok, setK_err, oevK_some, setTK_ok, setTK_err, ifK_true, newLK_ok, appK_is, appK2_ok, appK2_err, extK_is, extK2_ok, extK2_err, dputK_ok, dputK_err, dputK2_is, dputK3_ok, exprK_ok, exprK_err, retK_ok, retK_err, iteK_ok, iteK_err, tstK_true, tstK_false, tstK_not, tstK_dec, frzK_is, slot, List.cons_append, List.nil_append, retO, e1, one (.str (Str.ofString "1")) (fun q z => by cases z) rfl, Bool.not_true, List.isEmpty_cons, Bool.not_false]
theorem run_try {x : Str} {d : Df} {ds : List PyData} {b : TrB} {es : List Str} {C : Str} {i : Nat} {h : List HS} (ht : tab x = some d) (hk : 1 ≤ k) (hl : ds.length = d.np) (hd : d.body = [.tryE b es C i h]) : run g tab k x ds = retO (tryO (entry d ds) es C i h (evT g (run g tab (k - 1)) b (entry d ds))) := by
  refine run_W ht hk hl ?_
  rw [hd]
  show retO (Rh.execs g (run g tab (k - 1)) [.tryE b es C i h] (entry d ds)) = _
  rw [Q.s_cons, Q.s_tryE]
  cases tryO (entry d ds) es C i h (evT g (run g tab (k - 1)) b (entry d ds)) <;> rfl
theorem mix_ok' (BL : BaseL0 tab) (hk : 1 ≤ k) (c : Int) (p m : Nat) {zp zm : Int} (h1 : zp = p) (h2 : zm = m) (hp : 0 < p) (hp2 : p ≤ 10000) (hm : 0 < m) : run g tab k (Str.ofString "_law_mix") [.int c, .int zp, .int zm] = .ok (.int (mix c p m)) := by
  subst h1 h2
  exact levR 1 (fun k => mix_ok BL.mix c p m hp hp2 hm) hk
structure BaseK6 (g : Str → Option PyData) (tab : Str → Option Df) : Prop extends BaseP g tab where
  told : tab (Str.ofString "_law_told") = some d_law_told_k06
theorem told6_ok (B : BaseK6 g tab) (hk : 1 ≤ k) (a b c d : PyData) {x : PyData} (h : run g tab (k - 1) (Str.ofString "played") [a, b, c, d] = .ok x) : run g tab k (Str.ofString "_law_told") [a, b, c, d] = .ok x := by
  rw [run_try B.told hk rfl rfl]
  have e1 : evT g (run g tab (k - 1)) (.ret (.call (Str.ofString "played") (.cons (.var 0) (.cons (.var 1) (.cons (.var 2) (.cons (.var 3) .nil)))))) (entry d_law_told_k06 [a, b, c, d]) = .ok (some x) := by
    simp only [evT, d_law_told_k06, Q.var, Q.int, Q.neg, Q.str, Q.bl, Q.non, Q.glob, Q.tup, Q.lst, Q.bin, Q.cmp, Q.chain, Q.inG, Q.nt, Q.bop, Q.ite, Q.ix, Q.sl, Q.tl0, Q.rev, Q.disp, Q.call, Q.bi1, Q.mn2, Q.isi, Q.cnt, Q.tupRg, Q.lstRg, Q.lenO, Q.ixO, Q.nil, Q.cons, Q.b1, Q.and2, Q.or2, Q.no, Q.some_, Q.seq, Q.rng1, Q.rng2, Q.enm, bind_ok, bind_err, rofO_some, Option.map_some, truth, List.getElem?_cons_succ, List.getElem?_cons_zero, len_le0, len_le1, len_le2, len_le3, len_le4, len_le5, limN0, limN1, limN2, limN3, limN4, limN5, if_true, if_false, entry, List.map_cons, List.map_nil, List.replicate, WT, lcT, setT1, setT2, setT3, wipe1, wipe2, wipe3, Q.cno, Q.csome, List.set_cons_zero, List.set_cons_succ, cmpE, cmpN, cmpLtI, cmpLeI, cmpGtI, cmpGeI, cmpInL, cmpInT, cmpNiL, cmpNiT, addI, subI, lenL, lenT, tupL, lstT, lstL, isiLL, isiTT, isiBB, isiII, isiSS, List.cons_append, List.nil_append, h]
  rw [e1]
  rfl
theorem told6_err (B : BaseK6 g tab) (hk : 1 ≤ k) (a b c d : PyData) (h : run g tab (k - 1) (Str.ofString "played") [a, b, c, d] = .err (Str.ofString "BadPicks")) : run g tab k (Str.ofString "_law_told") [a, b, c, d] = .ok (.list [.bool true, .bool true]) := by
  rw [run_try B.told hk rfl rfl]
  have e1 : evT g (run g tab (k - 1)) (.ret (.call (Str.ofString "played") (.cons (.var 0) (.cons (.var 1) (.cons (.var 2) (.cons (.var 3) .nil)))))) (entry d_law_told_k06 [a, b, c, d]) = .err (Str.ofString "BadPicks") := by
    simp only [evT, d_law_told_k06, Q.var, Q.int, Q.neg, Q.str, Q.bl, Q.non, Q.glob, Q.tup, Q.lst, Q.bin, Q.cmp, Q.chain, Q.inG, Q.nt, Q.bop, Q.ite, Q.ix, Q.sl, Q.tl0, Q.rev, Q.disp, Q.call, Q.bi1, Q.mn2, Q.isi, Q.cnt, Q.tupRg, Q.lstRg, Q.lenO, Q.ixO, Q.nil, Q.cons, Q.b1, Q.and2, Q.or2, Q.no, Q.some_, Q.seq, Q.rng1, Q.rng2, Q.enm, bind_ok, bind_err, rofO_some, Option.map_some, truth, List.getElem?_cons_succ, List.getElem?_cons_zero, len_le0, len_le1, len_le2, len_le3, len_le4, len_le5, limN0, limN1, limN2, limN3, limN4, limN5, if_true, if_false, entry, List.map_cons, List.map_nil, List.replicate, WT, lcT, setT1, setT2, setT3, wipe1, wipe2, wipe3, Q.cno, Q.csome, List.set_cons_zero, List.set_cons_succ, cmpE, cmpN, cmpLtI, cmpLeI, cmpGtI, cmpGeI, cmpInL, cmpInT, cmpNiL, cmpNiT, addI, subI, lenL, lenT, tupL, lstT, lstL, isiLL, isiTT, isiBB, isiII, isiSS, List.cons_append, List.nil_append, h]
  rw [e1]
  rfl
theorem odd_ix {w : Nat} (h : w < 8) : ∃ x ∈ oddPicks, ixD (.list oddPicks) (.int w) = some x := by
  have hw : w < oddPicks.length := h
  refine ⟨oddPicks[w], List.getElem_mem hw, L2.atI_nat (j := w) (List.getElem?_eq_getElem hw)⟩
theorem eq_acts (a b : List (List Int × List Int)) : eqD (.list (a.map e)) (.list (b.map e)) = some (decide (a = b)) := eq_list a b
theorem law_k06 (B : BaseK6 g tab) (BL : BaseL tab) (BA : BaseLA tab) (hlaw : tab (Str.ofString "law") = some d_law_k06) {ns : List Int} (hl : ns.length ≤ 63) (hf : Few ns) (hk : 12 ≤ k) : run g tab k (Str.ofString "law") [scrD ns] = .ok (.bool true) := by
  refine run_W hlaw (by omega) rfl ?_
  obtain ⟨n, m, s, rs, st, D⟩ := draws (g := g) BL hl hf 3 5 (i1 := 3) (i2 := 5) rfl rfl
  have hn : 0 < n := by have := D.n3; omega
  have e1 := D.book (k := k - 1) (by omega)
  have e2 := D.many (k := k - 1) (by omega)
  have e3 := D.stand (k := k - 1) (by omega)
  have c0 := cell_ok' (g := g) (k := k - 1) BL.toBaseL0 (by omega) ns 0 (z := 0) rfl
  have c1 := cell_ok' (g := g) (k := k - 1) BL.toBaseL0 (by omega) ns 1 (z := 1) rfl
  have c2 := cell_ok' (g := g) (k := k - 1) BL.toBaseL0 (by omega) ns 2 (z := 2) rfl
  obtain ⟨w0, w0l, _, m0⟩ := mod_lit (cell ns 0) 3 (by omega) (z := 3) rfl
  obtain ⟨w1, w1l, _, m1⟩ := mod_lit (cell ns 1) 4 (by omega) (z := 4) rfl
  obtain ⟨w2, w2l, _, m2⟩ := mod_lit (cell ns 2) 8 (by omega) (z := 8) rfl
  obtain ⟨w3, w3l, _, m3⟩ := mod_lit (cell ns 1) 9 (by omega) (z := 9) rfl
  have oi := order_ix w0l
  have ho := order_in w0
  generalize orderOf w0 = order at oi ho
  by_cases q : w1 = 3
  · obtain ⟨x, hx, ix⟩ := odd_ix w2l
    have pl := told6_err (g := g) (k := k - 1) B (by omega) _ _ _ _ (played_odd (g := g) (k := k - 1 - 1) B.toBaseP (by omega) D.b D.ss ho hx)
    have q1 : eqD (.int w1) (.int 3) = some true := by rw [eq_int, decide_eq_true (by omega)]
    have q2 : eqD (.list [.bool true, .bool true]) (.list [.bool true, .bool true]) = some true := by
      have z := eq_list (α := Bool) [true, true] [true, true]
      rw [decide_eq_true rfl] at z
      exact z
    have l8 : ([PyData.none, .tuple [.int 1], .int 7, .list [.none], .list [.int (-1)], .list [.int 10000], .list [.bool true], .list [.str (Str.ofString "1")]].length ≤ lim) = True := by simp [lim]
    simp only [oddPicks] at ix
    simp only [d_law_k06, Q.var, Q.int, Q.neg, Q.str, Q.bl, Q.non, Q.glob, Q.tup, Q.lst, Q.bin, Q.cmp, Q.chain, Q.inG, Q.nt, Q.bop, Q.ite, Q.ix, Q.sl, Q.tl0, Q.rev, Q.disp, Q.call, Q.bi1, Q.mn2, Q.isi, Q.cnt, Q.tupRg, Q.lstRg, Q.lenO, Q.ixO, Q.nil, Q.cons, Q.b1, Q.and2, Q.or2, Q.no, Q.some_, Q.seq, Q.rng1, Q.rng2, Q.enm, bind_ok, bind_err, rofO_some, Option.map_some, truth, List.getElem?_cons_succ, List.getElem?_cons_zero, len_le0, len_le1, len_le2, len_le3, len_le4, len_le5, limN0, limN1, limN2, limN3, limN4, limN5, if_true, if_false, entry, List.map_cons, List.map_nil, List.replicate, WT, lcT, setT1, setT2, setT3, wipe1, wipe2, wipe3, Q.cno, Q.csome, List.set_cons_zero, List.set_cons_succ, cmpE, cmpN, cmpLtI, cmpLeI, cmpGtI, cmpGeI, cmpInL, cmpInT, cmpNiL, cmpNiT, addI, subI, lenL, lenT, tupL, lstT, lstL, isiLL, isiTT, isiBB, isiII, isiSS, W_nil, W_set, W_setT, W_newL, W_newD, W_app, W_ext, W_dput, W_expr, W_ret, W_retN, W_raise, W_ite, W_frz, setK_ok, setK_err, oevK_some, setTK_ok, setTK_err, ifK_true, newLK_ok, appK_is, appK2_ok, appK2_err, extK_is, extK2_ok, extK2_err, dputK_ok, dputK_err, dputK2_is, dputK3_ok, exprK_ok, exprK_err, retK_ok, retK_err, iteK_ok, iteK_err, tstK_true, tstK_false, tstK_not, tstK_dec, frzK_is, slot, List.cons_append, List.nil_append, retO, e1, e2, e3, c0, c1, c2, m0, m1, m2, oi, q1, l8, ix, pl, q2]
  · have q1 : eqD (.int w1) (.int 3) = some false := by rw [eq_int, decide_eq_false (by omega)]
    have key : ∀ (a b c d e1 e2 e3 e4 e5 e6 e7 e8 : Option Sl), ev g (run g tab (k - 1)) c_law_k06_0 [some (.sh (scrD ns)), a, b, c, d, e1, e2, e3, e4, e5, e6, e7, e8, none] = .ok (.list (((List.range w3).map fun (j : Nat) => mix (cell ns 2 + 31 * (j : Int)) 9931 9000).map fun (p : Nat) => .int p)) := by
      intro a b c d e1 e2 e3 e4 e5 e6 e7 e8
      refine lc_map (ea := fun (j : Nat) => .int j) (eb := fun (p : Nat) => .int p) _ (List.range w3) ?_ (by rw [List.length_range]; exact lim_of (by omega)) fun j hj => ?_
      · simp only [Q.var, Q.int, Q.neg, Q.str, Q.bl, Q.non, Q.glob, Q.tup, Q.lst, Q.bin, Q.cmp, Q.chain, Q.inG, Q.nt, Q.bop, Q.ite, Q.ix, Q.sl, Q.tl0, Q.rev, Q.disp, Q.call, Q.bi1, Q.mn2, Q.isi, Q.cnt, Q.tupRg, Q.lstRg, Q.lenO, Q.ixO, Q.nil, Q.cons, Q.b1, Q.and2, Q.or2, Q.no, Q.some_, Q.seq, Q.rng1, Q.rng2, Q.enm, bind_ok, bind_err, rofO_some, Option.map_some, truth, List.getElem?_cons_succ, List.getElem?_cons_zero, len_le0, len_le1, len_le2, len_le3, len_le4, len_le5, limN0, limN1, limN2, limN3, limN4, limN5, if_true, if_false, entry, List.map_cons, List.map_nil, List.replicate, WT, lcT, setT1, setT2, setT3, wipe1, wipe2, wipe3, Q.cno, Q.csome, List.set_cons_zero, List.set_cons_succ, cmpE, cmpN, cmpLtI, cmpLeI, cmpGtI, cmpGeI, cmpInL, cmpInT, cmpNiL, cmpNiT, addI, subI, lenL, lenT, tupL, lstT, lstL, isiLL, isiTT, isiBB, isiII, isiSS, c1, m3, small_of (show w3 ≤ 1000000 by omega), rangeD_nat]
      · rw [List.mem_range] at hj
        have z1 := mul_lit 31 j (by omega) (by omega)
        have z2 := mix_ok' (g := g) (k := k - 1) BL.toBaseL0 (by omega) (cell ns 2 + 31 * (j : Int)) 9931 9000 (zp := 9931) (zm := 9000) rfl rfl (by omega) (by omega) (by omega)
        simp only [Q.var, Q.int, Q.neg, Q.str, Q.bl, Q.non, Q.glob, Q.tup, Q.lst, Q.bin, Q.cmp, Q.chain, Q.inG, Q.nt, Q.bop, Q.ite, Q.ix, Q.sl, Q.tl0, Q.rev, Q.disp, Q.call, Q.bi1, Q.mn2, Q.isi, Q.cnt, Q.tupRg, Q.lstRg, Q.lenO, Q.ixO, Q.nil, Q.cons, Q.b1, Q.and2, Q.or2, Q.no, Q.some_, Q.seq, Q.rng1, Q.rng2, Q.enm, bind_ok, bind_err, rofO_some, Option.map_some, truth, List.getElem?_cons_succ, List.getElem?_cons_zero, len_le0, len_le1, len_le2, len_le3, len_le4, len_le5, limN0, limN1, limN2, limN3, limN4, limN5, if_true, if_false, entry, List.map_cons, List.map_nil, List.replicate, WT, lcT, setT1, setT2, setT3, wipe1, wipe2, wipe3, Q.cno, Q.csome, List.set_cons_zero, List.set_cons_succ, cmpE, cmpN, cmpLtI, cmpLeI, cmpGtI, cmpGeI, cmpInL, cmpInT, cmpNiL, cmpNiT, addI, subI, lenL, lenT, tupL, lstT, lstL, isiLL, isiTT, isiBB, isiII, isiSS, c2, z1, z2]
    have hp9 : ∀ p ∈ ((List.range w3).map fun (j : Nat) => mix (cell ns 2 + 31 * (j : Int)) 9931 9000), p ≤ 9999 := fun p hp => by
      obtain ⟨j, _, rfl⟩ := List.mem_map.mp hp
      have := mix_lt (cell ns 2 + 31 * (j : Int)) 9931 9000 (by omega)
      omega
    have hpl : ((List.range w3).map fun (j : Nat) => mix (cell ns 2 + 31 * (j : Int)) 9931 9000).length ≤ 1000 := by rw [List.length_map, List.length_range]; omega
    generalize ((List.range w3).map fun (j : Nat) => mix (cell ns 2 + 31 * (j : Int)) 9931 9000) = ps at key hp9 hpl
    have t1 := told6_ok (g := g) (k := k - 1) B (by omega) _ _ _ _ (played_ok (g := g) (k := k - 1 - 1) B.toBaseP (by omega) D.b D.ss ho ps hp9 hpl)
    simp only [d_law_k06, Q.var, Q.int, Q.neg, Q.str, Q.bl, Q.non, Q.glob, Q.tup, Q.lst, Q.bin, Q.cmp, Q.chain, Q.inG, Q.nt, Q.bop, Q.ite, Q.ix, Q.sl, Q.tl0, Q.rev, Q.disp, Q.call, Q.bi1, Q.mn2, Q.isi, Q.cnt, Q.tupRg, Q.lstRg, Q.lenO, Q.ixO, Q.nil, Q.cons, Q.b1, Q.and2, Q.or2, Q.no, Q.some_, Q.seq, Q.rng1, Q.rng2, Q.enm, bind_ok, bind_err, rofO_some, Option.map_some, truth, List.getElem?_cons_succ, List.getElem?_cons_zero, len_le0, len_le1, len_le2, len_le3, len_le4, len_le5, limN0, limN1, limN2, limN3, limN4, limN5, if_true, if_false, entry, List.map_cons, List.map_nil, List.replicate, WT, lcT, setT1, setT2, setT3, wipe1, wipe2, wipe3, Q.cno, Q.csome, List.set_cons_zero, List.set_cons_succ, cmpE, cmpN, cmpLtI, cmpLeI, cmpGtI, cmpGeI, cmpInL, cmpInT, cmpNiL, cmpNiT, addI, subI, lenL, lenT, tupL, lstT, lstL, isiLL, isiTT, isiBB, isiII, isiSS, W_nil, W_set, W_setT, W_newL, W_newD, W_app, W_ext, W_dput, W_expr, W_ret, W_retN, W_raise, W_ite, W_frz, setK_ok, setK_err, oevK_some, setTK_ok, setTK_err, ifK_true, newLK_ok, appK_is, appK2_ok, appK2_err, extK_is, extK2_ok, extK2_err, dputK_ok, dputK_err, dputK2_is, dputK3_ok, exprK_ok, exprK_err, retK_ok, retK_err, iteK_ok, iteK_err, tstK_true, tstK_false, tstK_not, tstK_dec, frzK_is, slot, List.cons_append, List.nil_append, retO, e1, e2, e3, c0, c1, m0, m1, oi, q1, key, t1]
    refine W_fold (enc := fun (p : Nat) => PyData.int p) (fun (qq : List (List Int × List Int) × List Int) (j : Option Sl × Option Sl) => [some (.sh (scrD ns)), some (.sh (bookT n s rs)), some (.sh (iT qq.2)), some (.sh (.str (Str.ofString order))), some (.sh (.list (ps.map fun (p : Nat) => .int p))), some (.sh (.list (ps.map fun (p : Nat) => .int p))), some (.sh (.list ((playedL n s rs order st ps).map e))), some (.own (.list (qq.1.map e))), j.1, some (.sh (.int n)), some (.sh (.int m)), none, j.2, none])
      (pickL n s rs order) (fun i qq => qq.1.length = i ∧ IsS n qq.2) ps ([], st) (none, none) (by simp only [Q.var, Q.int, Q.neg, Q.str, Q.bl, Q.non, Q.glob, Q.tup, Q.lst, Q.bin, Q.cmp, Q.chain, Q.inG, Q.nt, Q.bop, Q.ite, Q.ix, Q.sl, Q.tl0, Q.rev, Q.disp, Q.call, Q.bi1, Q.mn2, Q.isi, Q.cnt, Q.tupRg, Q.lstRg, Q.lenO, Q.ixO, Q.nil, Q.cons, Q.b1, Q.and2, Q.or2, Q.no, Q.some_, Q.seq, Q.rng1, Q.rng2, Q.enm, bind_ok, bind_err, rofO_some, Option.map_some, truth, List.getElem?_cons_succ, List.getElem?_cons_zero, len_le0, len_le1, len_le2, len_le3, len_le4, len_le5, limN0, limN1, limN2, limN3, limN4, limN5, if_true, if_false, entry, List.map_cons, List.map_nil, List.replicate, WT, lcT, setT1, setT2, setT3, wipe1, wipe2, wipe3, Q.cno, Q.csome, List.set_cons_zero, List.set_cons_succ, cmpE, cmpN, cmpLtI, cmpLeI, cmpGtI, cmpGeI, cmpInL, cmpInT, cmpNiL, cmpNiT, addI, subI, lenL, lenT, tupL, lstT, lstL, isiLL, isiTT, isiBB, isiII, isiSS]) ⟨rfl, D.ss⟩ (fun i qq j p hx hI => ?_) (fun j hI => ?_)
    · obtain ⟨hI1, hI2⟩ := hI
      have hi := at_lt hx
      have a1 := law_acts_ok (g := g) (k := k - 1) BA (by omega) D.b qq.2 hI2.lo hI2.hi ho
      obtain ⟨p1, p2⟩ := pick_ok (s := s) (rs := rs) ho hI2 p
      have p3 := pick_stand hn (s := s) (rs := rs) ho hI2 p
      refine ⟨⟨by simp [pickL, hI1], p3⟩, ?_⟩
      have z : (qq.1.map (e : List Int × List Int → PyData)).length < lim := lim_lt' (by rw [List.length_map]; omega)
      unfold pickL
      generalize (actsL n s rs order qq.2).getD (p % (actsL n s rs order qq.2).length) ([], []) = x at p2 ⊢
      have la : L2.atI (qq.1.map e ++ [e x]) (-1) = some (e x) := L2.atI_last _ _
      simp only [b_law_k06_0, Q.var, Q.int, Q.neg, Q.str, Q.bl, Q.non, Q.glob, Q.tup, Q.lst, Q.bin, Q.cmp, Q.chain, Q.inG, Q.nt, Q.bop, Q.ite, Q.ix, Q.sl, Q.tl0, Q.rev, Q.disp, Q.call, Q.bi1, Q.mn2, Q.isi, Q.cnt, Q.tupRg, Q.lstRg, Q.lenO, Q.ixO, Q.nil, Q.cons, Q.b1, Q.and2, Q.or2, Q.no, Q.some_, Q.seq, Q.rng1, Q.rng2, Q.enm, bind_ok, bind_err, rofO_some, Option.map_some, truth, List.getElem?_cons_succ, List.getElem?_cons_zero, len_le0, len_le1, len_le2, len_le3, len_le4, len_le5, limN0, limN1, limN2, limN3, limN4, limN5, if_true, if_false, entry, List.map_cons, List.map_nil, List.replicate, WT, lcT, setT1, setT2, setT3, wipe1, wipe2, wipe3, Q.cno, Q.csome, List.set_cons_zero, List.set_cons_succ, cmpE, cmpN, cmpLtI, cmpLeI, cmpGtI, cmpGeI, cmpInL, cmpInT, cmpNiL, cmpNiT, addI, subI, lenL, lenT, tupL, lstT, lstL, isiLL, isiTT, isiBB, isiII, isiSS, W_nil, W_set, W_setT, W_newL, W_newD, W_app, W_ext, W_dput, W_expr, W_ret, W_retN, W_raise, W_ite, W_frz, setK_ok, setK_err, oevK_some, setTK_ok, setTK_err, ifK_true, newLK_ok, appK_is, appK2_ok, appK2_err, extK_is, extK2_ok, extK2_err, dputK_ok, dputK_err, dputK2_is, dputK3_ok, exprK_ok, exprK_err, retK_ok, retK_err, iteK_ok, iteK_err, tstK_true, tstK_false, tstK_not, tstK_dec, frzK_is, slot, List.cons_append, List.nil_append, retO, a1, p1, p2, ifK_pos z, la, act_snd]
      exact ⟨(_, _), .inl (by rw [List.map_append]; rfl)⟩
    · have r1 : (ps.foldl (pickL n s rs order) ([], st)).1 = playedL n s rs order st ps := rfl
      have z1 := eq_acts (playedL n s rs order st ps) (playedL n s rs order st ps)
      have z2 : eqD (.list (ps.map fun (p : Nat) => PyData.int p)) (.list (ps.map fun (p : Nat) => PyData.int p)) = some true := by
        have z := eq_list (α := Int) (ps.map fun (p : Nat) => (p : Int)) (ps.map fun (p : Nat) => (p : Int))
        rw [List.map_map, decide_eq_true rfl] at z
        exact z
      simp only [Q.var, Q.int, Q.neg, Q.str, Q.bl, Q.non, Q.glob, Q.tup, Q.lst, Q.bin, Q.cmp, Q.chain, Q.inG, Q.nt, Q.bop, Q.ite, Q.ix, Q.sl, Q.tl0, Q.rev, Q.disp, Q.call, Q.bi1, Q.mn2, Q.isi, Q.cnt, Q.tupRg, Q.lstRg, Q.lenO, Q.ixO, Q.nil, Q.cons, Q.b1, Q.and2, Q.or2, Q.no, Q.some_, Q.seq, Q.rng1, Q.rng2, Q.enm, bind_ok, bind_err, rofO_some, Option.map_some, truth, List.getElem?_cons_succ, List.getElem?_cons_zero, len_le0, len_le1, len_le2, len_le3, len_le4, len_le5, limN0, limN1, limN2, limN3, limN4, limN5, if_true, if_false, entry, List.map_cons, List.map_nil, List.replicate, WT, lcT, setT1, setT2, setT3, wipe1, wipe2, wipe3, Q.cno, Q.csome, List.set_cons_zero, List.set_cons_succ, cmpE, cmpN, cmpLtI, cmpLeI, cmpGtI, cmpGeI, cmpInL, cmpInT, cmpNiL, cmpNiT, addI, subI, lenL, lenT, tupL, lstT, lstL, isiLL, isiTT, isiBB, isiII, isiSS, W_nil, W_set, W_setT, W_newL, W_newD, W_app, W_ext, W_dput, W_expr, W_ret, W_retN, W_raise, W_ite, W_frz, setK_ok, setK_err, oevK_some, setTK_ok, setTK_err, ifK_true, newLK_ok, appK_is, appK2_ok, appK2_err, extK_is, extK2_ok, extK2_err, dputK_ok, dputK_err, dputK2_is, dputK3_ok, exprK_ok, exprK_err, retK_ok, retK_err, iteK_ok, iteK_err, tstK_true, tstK_false, tstK_not, tstK_dec, frzK_is, slot, List.cons_append, List.nil_append, retO, r1, z1, z2, decide_true]
end
end Rh

set_option Elab.async false
set_option linter.all false
set_option maxRecDepth 100000
set_option maxHeartbeats 4000000
/-! Changes; law k05. -/
namespace Rh
open PySem (PyData Str)
open Enc (e)
open Ord' (lt ok)
open Cd
theorem ints_iT : ∀ x : List Int, intsD (x.map PyData.int) = some x
  | [] => rfl
  | i :: r => by
    show (intsD (r.map PyData.int)).map (i :: ·) = _
    rw [ints_iT r]; rfl
theorem tups_iT : ∀ xs : List (List Int), tupsD (xs.map iT) = some xs
  | [] => rfl
  | x :: r => by
    show (intsD (x.map PyData.int)).bind (fun a => (tupsD (r.map iT)).map (a :: ·)) = _
    rw [ints_iT, tups_iT r]; rfl
theorem difT_len : ∀ xs : List (List Int), (difT xs).length ≤ xs.length
  | [] => Nat.le_refl _
  | x :: r => by
    have := difT_len r
    unfold difT
    split
    · rw [List.length_cons]; omega
    · rw [List.length_cons, List.length_cons]; omega
/-- sorted(set(xs)) -/
theorem sset_ok (xs : List (List Int)) (h : ∀ x ∈ xs, x ≠ []) (hl : (difT xs).length ≤ 250) : ssetD (.list (xs.map iT)) = some (.list ((sortL (difT xs)).map iT)) := by
  have hs : sortable ((difT xs).map iT) = true := sortable_e (α := List Int) (difT xs) (fun x hx => by
    have := h x ((difT_mem _ _).mp hx)
    show (!x.isEmpty) = true
    cases x with
    | nil => exact absurd rfl this
    | cons _ _ => rfl) (lim_of (by omega))
  have hd : sortD ((difT xs).map iT) = (sortL (difT xs)).map iT := sortD_e (α := List Int) (difT xs)
  show (tupsD (xs.map iT)).bind (fun a => if Nat.ble (difT a).length 250 && sortable ((difT a).map iT) then some (PyData.list (sortD ((difT a).map iT))) else none) = _
  rw [tups_iT]
  show (if Nat.ble (difT xs).length 250 && sortable ((difT xs).map iT) then some (PyData.list (sortD ((difT xs).map iT))) else none) = _
  rw [hs, Nat.ble_eq.mpr hl, hd]; rfl
theorem eq_stand (a b : List Int) : eqD (iT a) (iT b) = some (decide (a = b)) := eq_e a b
theorem eq_stands (a b : List (List Int)) : eqD (.list (a.map iT)) (.list (b.map iT)) = some (decide (a = b)) := eq_list a b
/-- the stands of changes -/
def changesL (n : Nat) (s : String) (rs : List (List Int × String)) (order : String) (st : List Int) : List (List Int) :=
  sortL (difT (((actsL n s rs order st).filter fun x => decide (x.2 ≠ st)).map (·.2)))
theorem changes_mem (n : Nat) (s : String) (rs : List (List Int × String)) (order : String) (st o : List Int) : o ∈ changesL n s rs order st ↔ o ≠ st ∧ ∃ gr, (gr, o) ∈ actsL n s rs order st := by
  unfold changesL
  rw [sortL_mem, difT_mem, List.mem_map]
  constructor
  · rintro ⟨⟨gr, o'⟩, h, rfl⟩
    rw [List.mem_filter, decide_eq_true_eq] at h
    exact ⟨h.2, gr, h.1⟩
  · rintro ⟨h, gr, h2⟩
    exact ⟨(gr, o), by rw [List.mem_filter, decide_eq_true_eq]; exact ⟨h2, h⟩, rfl⟩
section
variable {g : Str → Option PyData} {tab : Str → Option Df} {k : Nat}
theorem changes_sset (n : Nat) (s : String) (rs : List (List Int × String)) {order : String} (ho : order ∈ orders) (st : List Int) (h1 : 1 ≤ st.length) (h4 : st.length ≤ 4) :
    ssetD (.list ((((actsL n s rs order st).filter fun x => decide (x.2 ≠ st)).map (·.2)).map iT)) = some (.list ((changesL n s rs order st).map iT)) := by
  refine sset_ok _ (fun x hx z => ?_) ?_
  · obtain ⟨y, hy, rfl⟩ := List.mem_map.mp hx
    have hm := ((acts_mem n s rs order st y).mp (List.mem_filter.mp hy).1).2
    have hl := (movedN_len n s rs st y.1 st.length).2 y.2 hm
    rw [z] at hl
    simp at hl
    omega
  · have a1 := difT_len (((actsL n s rs order st).filter fun x => decide (x.2 ≠ st)).map (·.2))
    have a2 := List.length_filter_le (fun x => decide (x.2 ≠ st)) (actsL n s rs order st)
    have a3 := acts_len n s rs ho h1 h4
    rw [List.length_map] at a1
    omega
structure BaseC (g : Str → Option PyData) (tab : Str → Option Df) : Prop extends BaseA g tab where
  changes_from : tab (Str.ofString "changes_from") = some d_changes_from
theorem changes_from_ok (B : BaseC g tab) (hk : 7 ≤ k) {n : Nat} (hn : 0 < n) (hn2 : n ≤ 1000) (s : String) (rs : List (List Int × String)) (st : List Int) (h1 : 1 ≤ st.length) (h4 : st.length ≤ 4) {order : String} (ho : order ∈ orders) :
    run g tab k (Str.ofString "changes_from") [bookT n s rs, iT st, .str (Str.ofString order)] = .ok (.list ((changesL n s rs order st).map iT)) := by
  refine run_W B.changes_from (by omega) rfl ?_
  have e1 := acts_from_ok (g := g) (k := k - 1) B.toBaseA (by omega) hn hn2 s rs st h1 h4 ho
  have hl : (actsL n s rs order st).length ≤ lim := lim_of (by have := acts_len n s rs ho h1 h4; omega)
  have key : ev g (run g tab (k - 1)) c_changes_from_0 [some (.sh (bookT n s rs)), some (.sh (iT st)), some (.sh (.str (Str.ofString order))), none, none] = .ok (.list ((((actsL n s rs order st).filter fun x => decide (x.2 ≠ st)).map (·.2)).map iT)) := by
    refine lc_filter (ea := e) (eb := iT) _ _ (actsL n s rs order st) (by simp only [Q.var, Q.int, Q.neg, Q.str, Q.bl, Q.non, Q.glob, Q.tup, Q.lst, Q.bin, Q.cmp, Q.chain, Q.inG, Q.nt, Q.bop, Q.ite, Q.ix, Q.sl, Q.tl0, Q.rev, Q.disp, Q.call, Q.bi1, Q.mn2, Q.isi, Q.cnt, Q.tupRg, Q.lstRg, Q.lenO, Q.ixO, Q.nil, Q.cons, Q.b1, Q.and2, Q.or2, Q.no, Q.some_, Q.seq, Q.rng1, Q.rng2, Q.enm, bind_ok, bind_err, rofO_some, Option.map_some, truth, List.getElem?_cons_succ, List.getElem?_cons_zero, len_le0, len_le1, len_le2, len_le3, len_le4, len_le5, limN0, limN1, limN2, limN3, limN4, limN5, if_true, if_false, entry, List.map_cons, List.map_nil, List.replicate, WT, lcT, setT1, setT2, setT3, wipe1, wipe2, wipe3, Q.cno, Q.csome, List.set_cons_zero, List.set_cons_succ, cmpE, cmpN, cmpLtI, cmpLeI, cmpGtI, cmpGeI, cmpInL, cmpInT, cmpNiL, cmpNiT, addI, subI, lenL, lenT, tupL, lstT, lstL, isiLL, isiTT, isiBB, isiII, isiSS, e1]) hl fun x hx => ?_
    obtain ⟨a, o⟩ := x
    have q := eq_stand o st
    show lcT g (run g tab (k - 1)) _ _ _ _ (.tuple [iT a, iT o]) = _
    by_cases c : o = st
    · rw [decide_eq_true c] at q
      simp only [Q.var, Q.int, Q.neg, Q.str, Q.bl, Q.non, Q.glob, Q.tup, Q.lst, Q.bin, Q.cmp, Q.chain, Q.inG, Q.nt, Q.bop, Q.ite, Q.ix, Q.sl, Q.tl0, Q.rev, Q.disp, Q.call, Q.bi1, Q.mn2, Q.isi, Q.cnt, Q.tupRg, Q.lstRg, Q.lenO, Q.ixO, Q.nil, Q.cons, Q.b1, Q.and2, Q.or2, Q.no, Q.some_, Q.seq, Q.rng1, Q.rng2, Q.enm, bind_ok, bind_err, rofO_some, Option.map_some, truth, List.getElem?_cons_succ, List.getElem?_cons_zero, len_le0, len_le1, len_le2, len_le3, len_le4, len_le5, limN0, limN1, limN2, limN3, limN4, limN5, if_true, if_false, entry, List.map_cons, List.map_nil, List.replicate, WT, lcT, setT1, setT2, setT3, wipe1, wipe2, wipe3, Q.cno, Q.csome, List.set_cons_zero, List.set_cons_succ, cmpE, cmpN, cmpLtI, cmpLeI, cmpGtI, cmpGeI, cmpInL, cmpInT, cmpNiL, cmpNiT, addI, subI, lenL, lenT, tupL, lstT, lstL, isiLL, isiTT, isiBB, isiII, isiSS, q, Bool.not_true]; simp [c]
    · rw [decide_eq_false c] at q
      simp only [Q.var, Q.int, Q.neg, Q.str, Q.bl, Q.non, Q.glob, Q.tup, Q.lst, Q.bin, Q.cmp, Q.chain, Q.inG, Q.nt, Q.bop, Q.ite, Q.ix, Q.sl, Q.tl0, Q.rev, Q.disp, Q.call, Q.bi1, Q.mn2, Q.isi, Q.cnt, Q.tupRg, Q.lstRg, Q.lenO, Q.ixO, Q.nil, Q.cons, Q.b1, Q.and2, Q.or2, Q.no, Q.some_, Q.seq, Q.rng1, Q.rng2, Q.enm, bind_ok, bind_err, rofO_some, Option.map_some, truth, List.getElem?_cons_succ, List.getElem?_cons_zero, len_le0, len_le1, len_le2, len_le3, len_le4, len_le5, limN0, limN1, limN2, limN3, limN4, limN5, if_true, if_false, entry, List.map_cons, List.map_nil, List.replicate, WT, lcT, setT1, setT2, setT3, wipe1, wipe2, wipe3, Q.cno, Q.csome, List.set_cons_zero, List.set_cons_succ, cmpE, cmpN, cmpLtI, cmpLeI, cmpGtI, cmpGeI, cmpInL, cmpInT, cmpNiL, cmpNiT, addI, subI, lenL, lenT, tupL, lstT, lstL, isiLL, isiTT, isiBB, isiII, isiSS, q, Bool.not_false]; simp [c]
  simp only [d_changes_from, Q.var, Q.int, Q.neg, Q.str, Q.bl, Q.non, Q.glob, Q.tup, Q.lst, Q.bin, Q.cmp, Q.chain, Q.inG, Q.nt, Q.bop, Q.ite, Q.ix, Q.sl, Q.tl0, Q.rev, Q.disp, Q.call, Q.bi1, Q.mn2, Q.isi, Q.cnt, Q.tupRg, Q.lstRg, Q.lenO, Q.ixO, Q.nil, Q.cons, Q.b1, Q.and2, Q.or2, Q.no, Q.some_, Q.seq, Q.rng1, Q.rng2, Q.enm, bind_ok, bind_err, rofO_some, Option.map_some, truth, List.getElem?_cons_succ, List.getElem?_cons_zero, len_le0, len_le1, len_le2, len_le3, len_le4, len_le5, limN0, limN1, limN2, limN3, limN4, limN5, if_true, if_false, entry, List.map_cons, List.map_nil, List.replicate, WT, lcT, setT1, setT2, setT3, wipe1, wipe2, wipe3, Q.cno, Q.csome, List.set_cons_zero, List.set_cons_succ, cmpE, cmpN, cmpLtI, cmpLeI, cmpGtI, cmpGeI, cmpInL, cmpInT, cmpNiL, cmpNiT, addI, subI, lenL, lenT, tupL, lstT, lstL, isiLL, isiTT, isiBB, isiII, isiSS, W_nil, W_set, W_setT, W_newL, W_newD, W_app, W_ext, W_dput, W_expr, W_ret, W_retN, W_raise, W_ite, W_frz, setK_ok, setK_err, oevK_some, setTK_ok, setTK_err, ifK_true, newLK_ok, appK_is, appK2_ok, appK2_err, extK_is, extK2_ok, extK2_err, dputK_ok, dputK_err, dputK2_is, dputK3_ok, exprK_ok, exprK_err, retK_ok, retK_err, iteK_ok, iteK_err, tstK_true, tstK_false, tstK_not, tstK_dec, frzK_is, slot, List.cons_append, List.nil_append, retO, Q.sset, key, changes_sset n s rs ho st h1 h4]
structure BaseC2 (g : Str → Option PyData) (tab : Str → Option Df) : Prop extends BaseC g tab where
  acts : tab (Str.ofString "acts") = some d_acts
  changes : tab (Str.ofString "changes") = some d_changes
theorem acts_ok (B : BaseC2 g tab) (hk : 7 ≤ k) {n : Nat} {s : String} {rs : List (List Int × String)} (hb : IsB n s rs) {st : List Int} (hs : IsS n st) {order : String} (ho : order ∈ orders) :
    run g tab k (Str.ofString "acts") [bookT n s rs, iT st, .str (Str.ofString order)] = .ok (.list ((actsL n s rs order st).map e)) := by
  refine run_W B.acts (by omega) rfl ?_
  have e1 := look_acts_ok (g := g) (k := k - 1) B.toBaseA (by omega) hb hs ho
  have e2 := acts_from_ok (g := g) (k := k - 1) B.toBaseA (by omega) (n := n) (by have := hb.lo; omega) (by have := hb.hi; omega) s rs st hs.lo hs.hi ho
  simp only [d_acts, Q.var, Q.int, Q.neg, Q.str, Q.bl, Q.non, Q.glob, Q.tup, Q.lst, Q.bin, Q.cmp, Q.chain, Q.inG, Q.nt, Q.bop, Q.ite, Q.ix, Q.sl, Q.tl0, Q.rev, Q.disp, Q.call, Q.bi1, Q.mn2, Q.isi, Q.cnt, Q.tupRg, Q.lstRg, Q.lenO, Q.ixO, Q.nil, Q.cons, Q.b1, Q.and2, Q.or2, Q.no, Q.some_, Q.seq, Q.rng1, Q.rng2, Q.enm, bind_ok, bind_err, rofO_some, Option.map_some, truth, List.getElem?_cons_succ, List.getElem?_cons_zero, len_le0, len_le1, len_le2, len_le3, len_le4, len_le5, limN0, limN1, limN2, limN3, limN4, limN5, if_true, if_false, entry, List.map_cons, List.map_nil, List.replicate, WT, lcT, setT1, setT2, setT3, wipe1, wipe2, wipe3, Q.cno, Q.csome, List.set_cons_zero, List.set_cons_succ, cmpE, cmpN, cmpLtI, cmpLeI, cmpGtI, cmpGeI, cmpInL, cmpInT, cmpNiL, cmpNiT, addI, subI, lenL, lenT, tupL, lstT, lstL, isiLL, isiTT, isiBB, isiII, isiSS, W_nil, W_set, W_setT, W_newL, W_newD, W_app, W_ext, W_dput, W_expr, W_ret, W_retN, W_raise, W_ite, W_frz, setK_ok, setK_err, oevK_some, setTK_ok, setTK_err, ifK_true, newLK_ok, appK_is, appK2_ok, appK2_err, extK_is, extK2_ok, extK2_err, dputK_ok, dputK_err, dputK2_is, dputK3_ok, exprK_ok, exprK_err, retK_ok, retK_err, iteK_ok, iteK_err, tstK_true, tstK_false, tstK_not, tstK_dec, frzK_is, slot, List.cons_append, List.nil_append, retO, e1, e2]
theorem changes_ok (B : BaseC2 g tab) (hk : 8 ≤ k) {n : Nat} {s : String} {rs : List (List Int × String)} (hb : IsB n s rs) {st : List Int} (hs : IsS n st) {order : String} (ho : order ∈ orders) :
    run g tab k (Str.ofString "changes") [bookT n s rs, iT st, .str (Str.ofString order)] = .ok (.list ((changesL n s rs order st).map iT)) := by
  refine run_W B.changes (by omega) rfl ?_
  have e1 := look_acts_ok (g := g) (k := k - 1) B.toBaseA (by omega) hb hs ho
  have e2 := changes_from_ok (g := g) (k := k - 1) B.toBaseC (by omega) (n := n) (by have := hb.lo; omega) (by have := hb.hi; omega) s rs st hs.lo hs.hi ho
  simp only [d_changes, Q.var, Q.int, Q.neg, Q.str, Q.bl, Q.non, Q.glob, Q.tup, Q.lst, Q.bin, Q.cmp, Q.chain, Q.inG, Q.nt, Q.bop, Q.ite, Q.ix, Q.sl, Q.tl0, Q.rev, Q.disp, Q.call, Q.bi1, Q.mn2, Q.isi, Q.cnt, Q.tupRg, Q.lstRg, Q.lenO, Q.ixO, Q.nil, Q.cons, Q.b1, Q.and2, Q.or2, Q.no, Q.some_, Q.seq, Q.rng1, Q.rng2, Q.enm, bind_ok, bind_err, rofO_some, Option.map_some, truth, List.getElem?_cons_succ, List.getElem?_cons_zero, len_le0, len_le1, len_le2, len_le3, len_le4, len_le5, limN0, limN1, limN2, limN3, limN4, limN5, if_true, if_false, entry, List.map_cons, List.map_nil, List.replicate, WT, lcT, setT1, setT2, setT3, wipe1, wipe2, wipe3, Q.cno, Q.csome, List.set_cons_zero, List.set_cons_succ, cmpE, cmpN, cmpLtI, cmpLeI, cmpGtI, cmpGeI, cmpInL, cmpInT, cmpNiL, cmpNiT, addI, subI, lenL, lenT, tupL, lstT, lstL, isiLL, isiTT, isiBB, isiII, isiSS, W_nil, W_set, W_setT, W_newL, W_newD, W_app, W_ext, W_dput, W_expr, W_ret, W_retN, W_raise, W_ite, W_frz, setK_ok, setK_err, oevK_some, setTK_ok, setTK_err, ifK_true, newLK_ok, appK_is, appK2_ok, appK2_err, extK_is, extK2_ok, extK2_err, dputK_ok, dputK_err, dputK2_is, dputK3_ok, exprK_ok, exprK_err, retK_ok, retK_err, iteK_ok, iteK_err, tstK_true, tstK_false, tstK_not, tstK_dec, frzK_is, slot, List.cons_append, List.nil_append, retO, e1, e2]
structure BaseLC (tab : Str → Option Df) : Prop extends BaseLA tab where
  lchanges : tab (Str.ofString "_law_changes") = some d_law_changes
theorem law_changes_ok (B : BaseLC tab) (hk : 4 ≤ k) {n : Nat} {s : String} {rs : List (List Int × String)} (hb : IsB n s rs) (st : List Int) (h1 : 1 ≤ st.length) (h4 : st.length ≤ 4) {order : String} (ho : order ∈ orders) :
    run g tab k (Str.ofString "_law_changes") [bookT n s rs, iT st, .str (Str.ofString order)] = .ok (.list ((changesL n s rs order st).map iT)) := by
  refine run_W B.lchanges (by omega) rfl ?_
  have e1 := law_acts_ok (g := g) (k := k - 1) B.toBaseLA (by omega) hb st h1 h4 ho
  have hl : (actsL n s rs order st).length ≤ lim := lim_of (by have := acts_len n s rs ho h1 h4; omega)
  have key : ev g (run g tab (k - 1)) c_law_changes_0 [some (.sh (bookT n s rs)), some (.sh (iT st)), some (.sh (.str (Str.ofString order))), none, none] = .ok (.list ((((actsL n s rs order st).filter fun x => decide (x.2 ≠ st)).map (·.2)).map iT)) := by
    refine lc_filter (ea := e) (eb := iT) _ _ (actsL n s rs order st) (by simp only [Q.var, Q.int, Q.neg, Q.str, Q.bl, Q.non, Q.glob, Q.tup, Q.lst, Q.bin, Q.cmp, Q.chain, Q.inG, Q.nt, Q.bop, Q.ite, Q.ix, Q.sl, Q.tl0, Q.rev, Q.disp, Q.call, Q.bi1, Q.mn2, Q.isi, Q.cnt, Q.tupRg, Q.lstRg, Q.lenO, Q.ixO, Q.nil, Q.cons, Q.b1, Q.and2, Q.or2, Q.no, Q.some_, Q.seq, Q.rng1, Q.rng2, Q.enm, bind_ok, bind_err, rofO_some, Option.map_some, truth, List.getElem?_cons_succ, List.getElem?_cons_zero, len_le0, len_le1, len_le2, len_le3, len_le4, len_le5, limN0, limN1, limN2, limN3, limN4, limN5, if_true, if_false, entry, List.map_cons, List.map_nil, List.replicate, WT, lcT, setT1, setT2, setT3, wipe1, wipe2, wipe3, Q.cno, Q.csome, List.set_cons_zero, List.set_cons_succ, cmpE, cmpN, cmpLtI, cmpLeI, cmpGtI, cmpGeI, cmpInL, cmpInT, cmpNiL, cmpNiT, addI, subI, lenL, lenT, tupL, lstT, lstL, isiLL, isiTT, isiBB, isiII, isiSS, e1]) hl fun x hx => ?_
    obtain ⟨a, o⟩ := x
    have q := eq_stand o st
    show lcT g (run g tab (k - 1)) _ _ _ _ (.tuple [iT a, iT o]) = _
    by_cases c : o = st
    · rw [decide_eq_true c] at q
      simp only [Q.var, Q.int, Q.neg, Q.str, Q.bl, Q.non, Q.glob, Q.tup, Q.lst, Q.bin, Q.cmp, Q.chain, Q.inG, Q.nt, Q.bop, Q.ite, Q.ix, Q.sl, Q.tl0, Q.rev, Q.disp, Q.call, Q.bi1, Q.mn2, Q.isi, Q.cnt, Q.tupRg, Q.lstRg, Q.lenO, Q.ixO, Q.nil, Q.cons, Q.b1, Q.and2, Q.or2, Q.no, Q.some_, Q.seq, Q.rng1, Q.rng2, Q.enm, bind_ok, bind_err, rofO_some, Option.map_some, truth, List.getElem?_cons_succ, List.getElem?_cons_zero, len_le0, len_le1, len_le2, len_le3, len_le4, len_le5, limN0, limN1, limN2, limN3, limN4, limN5, if_true, if_false, entry, List.map_cons, List.map_nil, List.replicate, WT, lcT, setT1, setT2, setT3, wipe1, wipe2, wipe3, Q.cno, Q.csome, List.set_cons_zero, List.set_cons_succ, cmpE, cmpN, cmpLtI, cmpLeI, cmpGtI, cmpGeI, cmpInL, cmpInT, cmpNiL, cmpNiT, addI, subI, lenL, lenT, tupL, lstT, lstL, isiLL, isiTT, isiBB, isiII, isiSS, q, Bool.not_true]; simp [c]
    · rw [decide_eq_false c] at q
      simp only [Q.var, Q.int, Q.neg, Q.str, Q.bl, Q.non, Q.glob, Q.tup, Q.lst, Q.bin, Q.cmp, Q.chain, Q.inG, Q.nt, Q.bop, Q.ite, Q.ix, Q.sl, Q.tl0, Q.rev, Q.disp, Q.call, Q.bi1, Q.mn2, Q.isi, Q.cnt, Q.tupRg, Q.lstRg, Q.lenO, Q.ixO, Q.nil, Q.cons, Q.b1, Q.and2, Q.or2, Q.no, Q.some_, Q.seq, Q.rng1, Q.rng2, Q.enm, bind_ok, bind_err, rofO_some, Option.map_some, truth, List.getElem?_cons_succ, List.getElem?_cons_zero, len_le0, len_le1, len_le2, len_le3, len_le4, len_le5, limN0, limN1, limN2, limN3, limN4, limN5, if_true, if_false, entry, List.map_cons, List.map_nil, List.replicate, WT, lcT, setT1, setT2, setT3, wipe1, wipe2, wipe3, Q.cno, Q.csome, List.set_cons_zero, List.set_cons_succ, cmpE, cmpN, cmpLtI, cmpLeI, cmpGtI, cmpGeI, cmpInL, cmpInT, cmpNiL, cmpNiT, addI, subI, lenL, lenT, tupL, lstT, lstL, isiLL, isiTT, isiBB, isiII, isiSS, q, Bool.not_false]; simp [c]
  simp only [d_law_changes, Q.var, Q.int, Q.neg, Q.str, Q.bl, Q.non, Q.glob, Q.tup, Q.lst, Q.bin, Q.cmp, Q.chain, Q.inG, Q.nt, Q.bop, Q.ite, Q.ix, Q.sl, Q.tl0, Q.rev, Q.disp, Q.call, Q.bi1, Q.mn2, Q.isi, Q.cnt, Q.tupRg, Q.lstRg, Q.lenO, Q.ixO, Q.nil, Q.cons, Q.b1, Q.and2, Q.or2, Q.no, Q.some_, Q.seq, Q.rng1, Q.rng2, Q.enm, bind_ok, bind_err, rofO_some, Option.map_some, truth, List.getElem?_cons_succ, List.getElem?_cons_zero, len_le0, len_le1, len_le2, len_le3, len_le4, len_le5, limN0, limN1, limN2, limN3, limN4, limN5, if_true, if_false, entry, List.map_cons, List.map_nil, List.replicate, WT, lcT, setT1, setT2, setT3, wipe1, wipe2, wipe3, Q.cno, Q.csome, List.set_cons_zero, List.set_cons_succ, cmpE, cmpN, cmpLtI, cmpLeI, cmpGtI, cmpGeI, cmpInL, cmpInT, cmpNiL, cmpNiT, addI, subI, lenL, lenT, tupL, lstT, lstL, isiLL, isiTT, isiBB, isiII, isiSS, W_nil, W_set, W_setT, W_newL, W_newD, W_app, W_ext, W_dput, W_expr, W_ret, W_retN, W_raise, W_ite, W_frz, setK_ok, setK_err, oevK_some, setTK_ok, setTK_err, ifK_true, newLK_ok, appK_is, appK2_ok, appK2_err, extK_is, extK2_ok, extK2_err, dputK_ok, dputK_err, dputK2_is, dputK3_ok, exprK_ok, exprK_err, retK_ok, retK_err, iteK_ok, iteK_err, tstK_true, tstK_false, tstK_not, tstK_dec, frzK_is, slot, List.cons_append, List.nil_append, retO, Q.sset, key, changes_sset n s rs ho st h1 h4]
theorem law_k05 (B : BaseC2 g tab) (BL : BaseL tab) (BA : BaseLC tab) (hlaw : tab (Str.ofString "law") = some d_law_k05) {ns : List Int} (hl : ns.length ≤ 63) (hf : Few ns) (hk : 12 ≤ k) : run g tab k (Str.ofString "law") [scrD ns] = .ok (.bool true) := by
  refine run_W hlaw (by omega) rfl ?_
  obtain ⟨n, m, s, rs, st, D⟩ := draws (g := g) BL hl hf 2 4 (i1 := 2) (i2 := 4) rfl rfl
  have e1 := D.book (k := k - 1) (by omega)
  have e2 := D.many (k := k - 1) (by omega)
  have e3 := D.stand (k := k - 1) (by omega)
  have c0 := cell_ok' (g := g) (k := k - 1) BL.toBaseL0 (by omega) ns 0 (z := 0) rfl
  obtain ⟨w0, w0l, _, m0⟩ := mod_lit (cell ns 0) 3 (by omega) (z := 3) rfl
  have oi := order_ix w0l
  have ho := order_in w0
  generalize orderOf w0 = order at oi ho
  have a1 := law_acts_ok (g := g) (k := k - 1) BA.toBaseLA (by omega) D.b st D.ss.lo D.ss.hi ho
  have a2 := acts_ok (g := g) (k := k - 1) B (by omega) D.b D.ss ho
  have a3 := changes_ok (g := g) (k := k - 1) B (by omega) D.b D.ss ho
  have a4 := law_changes_ok (g := g) (k := k - 1) BA (by omega) D.b st D.ss.lo D.ss.hi ho
  have q1 := eq_acts (actsL n s rs order st) (actsL n s rs order st)
  have q2 := eq_stands (changesL n s rs order st) (changesL n s rs order st)
  have i1 : ∀ xs, isiD "list" (.list xs) = some true := fun _ => rfl
  simp only [d_law_k05, Q.var, Q.int, Q.neg, Q.str, Q.bl, Q.non, Q.glob, Q.tup, Q.lst, Q.bin, Q.cmp, Q.chain, Q.inG, Q.nt, Q.bop, Q.ite, Q.ix, Q.sl, Q.tl0, Q.rev, Q.disp, Q.call, Q.bi1, Q.mn2, Q.isi, Q.cnt, Q.tupRg, Q.lstRg, Q.lenO, Q.ixO, Q.nil, Q.cons, Q.b1, Q.and2, Q.or2, Q.no, Q.some_, Q.seq, Q.rng1, Q.rng2, Q.enm, bind_ok, bind_err, rofO_some, Option.map_some, truth, List.getElem?_cons_succ, List.getElem?_cons_zero, len_le0, len_le1, len_le2, len_le3, len_le4, len_le5, limN0, limN1, limN2, limN3, limN4, limN5, if_true, if_false, entry, List.map_cons, List.map_nil, List.replicate, WT, lcT, setT1, setT2, setT3, wipe1, wipe2, wipe3, Q.cno, Q.csome, List.set_cons_zero, List.set_cons_succ, cmpE, cmpN, cmpLtI, cmpLeI, cmpGtI, cmpGeI, cmpInL, cmpInT, cmpNiL, cmpNiT, addI, subI, lenL, lenT, tupL, lstT, lstL, isiLL, isiTT, isiBB, isiII, isiSS, W_nil, W_set, W_setT, W_newL, W_newD, W_app, W_ext, W_dput, W_expr, W_ret, W_retN, W_raise, W_ite, W_frz, setK_ok, setK_err, oevK_some, setTK_ok, setTK_err, ifK_true, newLK_ok, appK_is, appK2_ok, appK2_err, extK_is, extK2_ok, extK2_err, dputK_ok, dputK_err, dputK2_is, dputK3_ok, exprK_ok, exprK_err, retK_ok, retK_err, iteK_ok, iteK_err, tstK_true, tstK_false, tstK_not, tstK_dec, frzK_is, slot, List.cons_append, List.nil_append, retO, e1, e2, e3, c0, m0, oi, a1, a2, a3, a4, q1, q2, i1, decide_true, Bool.not_true]
end
end Rh

set_option Elab.async false
set_option linter.all false
set_option maxRecDepth 100000
set_option maxHeartbeats 0
namespace Rh
namespace L_k05
open PySem PySem.W PyProof.Rows Cd
abbrev P0 : Program := PySem.Challenge.pw_ringhands_k05_acts
abbrev R0 : PySem.W.OpenRow := PySem.W.OpenLaw.row PySem.Challenge.rw_ringhands_k05_acts
def Gx : Gs := ⟨[(Str.ofString "is_within"), (Str.ofString "is_stand"), (Str.ofString "look_stand"), (Str.ofString "told_apart"), (Str.ofString "seen_along"), (Str.ofString "turned_view"), (Str.ofString "view_at"), (Str.ofString "is_view"), (Str.ofString "are_rules"), (Str.ofString "checked"), (Str.ofString "look"), (Str.ofString "move_for"), (Str.ofString "wish_at"), (Str.ofString "look_order"), (Str.ofString "groups"), (Str.ofString "moved_by"), (Str.ofString "both"), (Str.ofString "acts_from"), (Str.ofString "look_acts"), (Str.ofString "acts"), (Str.ofString "changes_from"), (Str.ofString "changes"), (Str.ofString "_law_cell"), (Str.ofString "_law_mix"), (Str.ofString "_law_row"), (Str.ofString "_law_view"), (Str.ofString "_law_stands"), (Str.ofString "_law_views"), (Str.ofString "_law_many"), (Str.ofString "_law_book"), (Str.ofString "_law_stand"), (Str.ofString "_law_wish"), (Str.ofString "_law_acts"), (Str.ofString "_law_changes"), (Str.ofString "law")], [(Str.ofString "LEAST_SIZE"), (Str.ofString "MOST_HANDS"), (Str.ofString "MOST_RULES"), (Str.ofString "MOST_SIZE")], [(Str.ofString "ORDERS"), (Str.ofString "SIGHTS")], [(Str.ofString "BadBook"), (Str.ofString "BadOrder"), (Str.ofString "BadStand")], [(Str.ofString "bool"), (Str.ofString "enumerate"), (Str.ofString "int"), (Str.ofString "isinstance"), (Str.ofString "len"), (Str.ofString "list"), (Str.ofString "min"), (Str.ofString "range"), (Str.ofString "set"), (Str.ofString "sorted"), (Str.ofString "str"), (Str.ofString "sum"), (Str.ofString "tuple")], []⟩
def dLaw : Dd := ⟨(Str.ofString "law"), 49, [(Str.ofString "script"), (Str.ofString "book"), (Str.ofString "stand"), (Str.ofString "order"), (Str.ofString "due"), (Str.ofString "found"), (Str.ofString "some"), (Str.ofString "size"), (Str.ofString "many")], [(Str.ofString "script")], d_law_k05⟩
def Lx : Lw := ⟨Gx, [((Str.ofString "LEAST_SIZE"), 3), ((Str.ofString "MOST_HANDS"), 4), ((Str.ofString "MOST_RULES"), 40), ((Str.ofString "MOST_SIZE"), 7)], [((Str.ofString "ORDERS"), [(Str.ofString "one"), (Str.ofString "some"), (Str.ofString "all")]), ((Str.ofString "SIGHTS"), [(Str.ofString "all"), (Str.ofString "many"), (Str.ofString "some")])], [
  ⟨(Str.ofString "is_within"), 10, [(Str.ofString "thing"), (Str.ofString "low"), (Str.ofString "high")], [(Str.ofString "thing"), (Str.ofString "low"), (Str.ofString "high")], d_is_within⟩,
  ⟨(Str.ofString "is_stand"), 11, [(Str.ofString "size"), (Str.ofString "thing"), (Str.ofString "place")], [(Str.ofString "size"), (Str.ofString "thing")], d_is_stand⟩,
  ⟨(Str.ofString "look_stand"), 12, [(Str.ofString "size"), (Str.ofString "stand")], [(Str.ofString "size"), (Str.ofString "stand")], d_look_stand⟩,
  ⟨(Str.ofString "told_apart"), 13, [(Str.ofString "sight"), (Str.ofString "number")], [(Str.ofString "sight"), (Str.ofString "number")], d_told_apart⟩,
  ⟨(Str.ofString "seen_along"), 14, [(Str.ofString "size"), (Str.ofString "sight"), (Str.ofString "stand"), (Str.ofString "place"), (Str.ofString "step"), (Str.ofString "far")], [(Str.ofString "size"), (Str.ofString "sight"), (Str.ofString "stand"), (Str.ofString "place"), (Str.ofString "step")], d_seen_along⟩,
  ⟨(Str.ofString "turned_view"), 15, [(Str.ofString "view")], [(Str.ofString "view")], d_turned_view⟩,
  ⟨(Str.ofString "view_at"), 16, [(Str.ofString "size"), (Str.ofString "sight"), (Str.ofString "stand"), (Str.ofString "place"), (Str.ofString "one")], [(Str.ofString "size"), (Str.ofString "sight"), (Str.ofString "stand"), (Str.ofString "place")], d_view_at⟩,
  ⟨(Str.ofString "is_view"), 19, [(Str.ofString "size"), (Str.ofString "sight"), (Str.ofString "thing"), (Str.ofString "most"), (Str.ofString "one")], [(Str.ofString "size"), (Str.ofString "sight"), (Str.ofString "thing")], d_is_view⟩,
  ⟨(Str.ofString "are_rules"), 20, [(Str.ofString "size"), (Str.ofString "sight"), (Str.ofString "thing"), (Str.ofString "at"), (Str.ofString "rule")], [(Str.ofString "size"), (Str.ofString "sight"), (Str.ofString "thing")], d_are_rules⟩,
  ⟨(Str.ofString "checked"), 21, [(Str.ofString "book")], [(Str.ofString "book")], d_checked⟩,
  ⟨(Str.ofString "look"), 22, [(Str.ofString "book"), (Str.ofString "stand")], [(Str.ofString "book"), (Str.ofString "stand")], d_look⟩,
  ⟨(Str.ofString "move_for"), 23, [(Str.ofString "book"), (Str.ofString "view"), (Str.ofString "rule")], [(Str.ofString "book"), (Str.ofString "view")], d_move_for⟩,
  ⟨(Str.ofString "wish_at"), 26, [(Str.ofString "book"), (Str.ofString "stand"), (Str.ofString "place"), (Str.ofString "size"), (Str.ofString "seen"), (Str.ofString "move"), (Str.ofString "step")], [(Str.ofString "book"), (Str.ofString "stand"), (Str.ofString "place")], d_wish_at⟩,
  ⟨(Str.ofString "look_order"), 27, [(Str.ofString "order")], [(Str.ofString "order")], d_look_order⟩,
  ⟨(Str.ofString "groups"), 28, [(Str.ofString "many"), (Str.ofString "order"), (Str.ofString "found"), (Str.ofString "hand"), (Str.ofString "group")], [(Str.ofString "many"), (Str.ofString "order")], d_groups⟩,
  ⟨(Str.ofString "moved_by"), 29, [(Str.ofString "book"), (Str.ofString "stand"), (Str.ofString "group"), (Str.ofString "found"), (Str.ofString "hand"), (Str.ofString "place"), (Str.ofString "more")], [(Str.ofString "book"), (Str.ofString "stand"), (Str.ofString "group")], d_moved_by⟩,
  ⟨(Str.ofString "both"), 30, [(Str.ofString "stands"), (Str.ofString "places"), (Str.ofString "found"), (Str.ofString "stand"), (Str.ofString "place")], [(Str.ofString "stands"), (Str.ofString "places")], d_both⟩,
  ⟨(Str.ofString "acts_from"), 31, [(Str.ofString "book"), (Str.ofString "stand"), (Str.ofString "order"), (Str.ofString "found"), (Str.ofString "group"), (Str.ofString "other")], [(Str.ofString "book"), (Str.ofString "stand"), (Str.ofString "order")], d_acts_from⟩,
  ⟨(Str.ofString "look_acts"), 32, [(Str.ofString "book"), (Str.ofString "stand"), (Str.ofString "order")], [(Str.ofString "book"), (Str.ofString "stand"), (Str.ofString "order")], d_look_acts⟩,
  ⟨(Str.ofString "acts"), 33, [(Str.ofString "book"), (Str.ofString "stand"), (Str.ofString "order")], [(Str.ofString "book"), (Str.ofString "stand"), (Str.ofString "order")], d_acts⟩,
  ⟨(Str.ofString "changes_from"), 34, [(Str.ofString "book"), (Str.ofString "stand"), (Str.ofString "order"), (Str.ofString "group"), (Str.ofString "other")], [(Str.ofString "book"), (Str.ofString "stand"), (Str.ofString "order")], d_changes_from⟩,
  ⟨(Str.ofString "changes"), 35, [(Str.ofString "book"), (Str.ofString "stand"), (Str.ofString "order")], [(Str.ofString "book"), (Str.ofString "stand"), (Str.ofString "order")], d_changes⟩,
  ⟨(Str.ofString "_law_cell"), 37, [(Str.ofString "script"), (Str.ofString "k")], [(Str.ofString "script"), (Str.ofString "k")], d_law_cell⟩,
  ⟨(Str.ofString "_law_mix"), 38, [(Str.ofString "cell"), (Str.ofString "prime"), (Str.ofString "many")], [(Str.ofString "cell"), (Str.ofString "prime"), (Str.ofString "many")], d_law_mix⟩,
  ⟨(Str.ofString "_law_row"), 39, [(Str.ofString "size"), (Str.ofString "sight"), (Str.ofString "stand"), (Str.ofString "place"), (Str.ofString "way"), (Str.ofString "found"), (Str.ofString "k"), (Str.ofString "many"), (Str.ofString "one")], [(Str.ofString "size"), (Str.ofString "sight"), (Str.ofString "stand"), (Str.ofString "place"), (Str.ofString "way")], d_law_row⟩,
  ⟨(Str.ofString "_law_view"), 40, [(Str.ofString "size"), (Str.ofString "sight"), (Str.ofString "stand"), (Str.ofString "place")], [(Str.ofString "size"), (Str.ofString "sight"), (Str.ofString "stand"), (Str.ofString "place")], d_law_view⟩,
  ⟨(Str.ofString "_law_stands"), 41, [(Str.ofString "size"), (Str.ofString "many"), (Str.ofString "found"), (Str.ofString "hand"), (Str.ofString "more"), (Str.ofString "stand"), (Str.ofString "place")], [(Str.ofString "size"), (Str.ofString "many")], d_law_stands⟩,
  ⟨(Str.ofString "_law_views"), 42, [(Str.ofString "size"), (Str.ofString "sight"), (Str.ofString "many"), (Str.ofString "found"), (Str.ofString "stand"), (Str.ofString "place")], [(Str.ofString "size"), (Str.ofString "sight"), (Str.ofString "many")], d_law_views⟩,
  ⟨(Str.ofString "_law_many"), 43, [(Str.ofString "script"), (Str.ofString "at"), (Str.ofString "some"), (Str.ofString "many")], [(Str.ofString "script"), (Str.ofString "at")], d_law_many⟩,
  ⟨(Str.ofString "_law_book"), 44, [(Str.ofString "script"), (Str.ofString "at"), (Str.ofString "sight"), (Str.ofString "rules"), (Str.ofString "size"), (Str.ofString "many"), (Str.ofString "k"), (Str.ofString "seen"), (Str.ofString "way")], [(Str.ofString "script"), (Str.ofString "at")], d_law_book⟩,
  ⟨(Str.ofString "_law_stand"), 45, [(Str.ofString "script"), (Str.ofString "at"), (Str.ofString "size"), (Str.ofString "many"), (Str.ofString "k")], [(Str.ofString "script"), (Str.ofString "at"), (Str.ofString "size"), (Str.ofString "many")], d_law_stand⟩,
  ⟨(Str.ofString "_law_wish"), 46, [(Str.ofString "book"), (Str.ofString "stand"), (Str.ofString "place"), (Str.ofString "along"), (Str.ofString "against"), (Str.ofString "move"), (Str.ofString "ways"), (Str.ofString "size"), (Str.ofString "sight"), (Str.ofString "rules"), (Str.ofString "rule"), (Str.ofString "way")], [(Str.ofString "book"), (Str.ofString "stand"), (Str.ofString "place")], d_law_wish⟩,
  ⟨(Str.ofString "_law_acts"), 47, [(Str.ofString "book"), (Str.ofString "stand"), (Str.ofString "order"), (Str.ofString "found"), (Str.ofString "mask"), (Str.ofString "group"), (Str.ofString "rows"), (Str.ofString "row"), (Str.ofString "hand"), (Str.ofString "place"), (Str.ofString "more"), (Str.ofString "longer_ones"), (Str.ofString "other")], [(Str.ofString "book"), (Str.ofString "stand"), (Str.ofString "order")], d_law_acts⟩,
  ⟨(Str.ofString "_law_changes"), 48, [(Str.ofString "book"), (Str.ofString "stand"), (Str.ofString "order"), (Str.ofString "group"), (Str.ofString "other")], [(Str.ofString "book"), (Str.ofString "stand"), (Str.ofString "order")], d_law_changes⟩,
  dLaw]⟩
theorem binds : BindsAll Lx P0 := by
  unfold BindsAll
  refine (all_cons ?_ (all_cons ?_ (all_cons ?_ (all_cons ?_ (all_cons ?_ (all_cons ?_ (all_cons ?_ (all_cons ?_ (all_cons ?_ (all_cons ?_ (all_cons ?_ (all_cons ?_ (all_cons ?_ (all_cons ?_ (all_cons ?_ (all_cons ?_ (all_cons ?_ (all_cons ?_ (all_cons ?_ (all_cons ?_ (all_cons ?_ (all_cons ?_ (all_cons ?_ (all_cons ?_ (all_cons ?_ (all_cons ?_ (all_cons ?_ (all_cons ?_ (all_cons ?_ (all_cons ?_ (all_cons ?_ (all_cons ?_ (all_cons ?_ (all_cons ?_ (all_cons ?_ all_nil)))))))))))))))))))))))))))))))))))
  · exact fun _ _ _ _ _ _ us hl => match us, hl with | [_, _, _], _ => rfl
  · exact fun _ _ _ _ _ _ us hl => match us, hl with | [_, _], _ => rfl
  · exact fun _ _ _ _ _ _ us hl => match us, hl with | [_, _], _ => rfl
  · exact fun _ _ _ _ _ _ us hl => match us, hl with | [_, _], _ => rfl
  · exact fun _ _ _ _ _ _ us hl => match us, hl with | [_, _, _, _, _], _ => rfl
  · exact fun _ _ _ _ _ _ us hl => match us, hl with | [_], _ => rfl
  · exact fun _ _ _ _ _ _ us hl => match us, hl with | [_, _, _, _], _ => rfl
  · exact fun _ _ _ _ _ _ us hl => match us, hl with | [_, _, _], _ => rfl
  · exact fun _ _ _ _ _ _ us hl => match us, hl with | [_, _, _], _ => rfl
  · exact fun _ _ _ _ _ _ us hl => match us, hl with | [_], _ => rfl
  · exact fun _ _ _ _ _ _ us hl => match us, hl with | [_, _], _ => rfl
  · exact fun _ _ _ _ _ _ us hl => match us, hl with | [_, _], _ => rfl
  · exact fun _ _ _ _ _ _ us hl => match us, hl with | [_, _, _], _ => rfl
  · exact fun _ _ _ _ _ _ us hl => match us, hl with | [_], _ => rfl
  · exact fun _ _ _ _ _ _ us hl => match us, hl with | [_, _], _ => rfl
  · exact fun _ _ _ _ _ _ us hl => match us, hl with | [_, _, _], _ => rfl
  · exact fun _ _ _ _ _ _ us hl => match us, hl with | [_, _], _ => rfl
  · exact fun _ _ _ _ _ _ us hl => match us, hl with | [_, _, _], _ => rfl
  · exact fun _ _ _ _ _ _ us hl => match us, hl with | [_, _, _], _ => rfl
  · exact fun _ _ _ _ _ _ us hl => match us, hl with | [_, _, _], _ => rfl
  · exact fun _ _ _ _ _ _ us hl => match us, hl with | [_, _, _], _ => rfl
  · exact fun _ _ _ _ _ _ us hl => match us, hl with | [_, _, _], _ => rfl
  · exact fun _ _ _ _ _ _ us hl => match us, hl with | [_, _], _ => rfl
  · exact fun _ _ _ _ _ _ us hl => match us, hl with | [_, _, _], _ => rfl
  · exact fun _ _ _ _ _ _ us hl => match us, hl with | [_, _, _, _, _], _ => rfl
  · exact fun _ _ _ _ _ _ us hl => match us, hl with | [_, _, _, _], _ => rfl
  · exact fun _ _ _ _ _ _ us hl => match us, hl with | [_, _], _ => rfl
  · exact fun _ _ _ _ _ _ us hl => match us, hl with | [_, _, _], _ => rfl
  · exact fun _ _ _ _ _ _ us hl => match us, hl with | [_, _], _ => rfl
  · exact fun _ _ _ _ _ _ us hl => match us, hl with | [_, _], _ => rfl
  · exact fun _ _ _ _ _ _ us hl => match us, hl with | [_, _, _, _], _ => rfl
  · exact fun _ _ _ _ _ _ us hl => match us, hl with | [_, _, _], _ => rfl
  · exact fun _ _ _ _ _ _ us hl => match us, hl with | [_, _, _], _ => rfl
  · exact fun _ _ _ _ _ _ us hl => match us, hl with | [_, _, _], _ => rfl
  · exact fun _ _ _ _ _ _ us hl => match us, hl with | [_], _ => rfl
def loose : List Str := [(Str.ofString "__name__"), (Str.ofString "HandError"), (Str.ofString "BadBook"), (Str.ofString "BadStand"), (Str.ofString "BadOrder"), (Str.ofString "LEAST_SIZE"), (Str.ofString "MOST_SIZE"), (Str.ofString "MOST_HANDS"), (Str.ofString "SIGHTS"), (Str.ofString "is_within"), (Str.ofString "is_stand"), (Str.ofString "look_stand"), (Str.ofString "told_apart"), (Str.ofString "seen_along"), (Str.ofString "turned_view"), (Str.ofString "view_at"), (Str.ofString "MOST_RULES"), (Str.ofString "is_view"), (Str.ofString "are_rules"), (Str.ofString "checked"), (Str.ofString "look"), (Str.ofString "move_for"), (Str.ofString "ORDERS"), (Str.ofString "wish_at"), (Str.ofString "look_order"), (Str.ofString "groups"), (Str.ofString "moved_by"), (Str.ofString "both"), (Str.ofString "acts_from"), (Str.ofString "look_acts"), (Str.ofString "acts"), (Str.ofString "changes_from"), (Str.ofString "changes"), (Str.ofString "_law_cell"), (Str.ofString "_law_mix"), (Str.ofString "_law_row"), (Str.ofString "_law_view"), (Str.ofString "_law_stands"), (Str.ofString "_law_views"), (Str.ofString "_law_many"), (Str.ofString "_law_book"), (Str.ofString "_law_stand"), (Str.ofString "_law_wish"), (Str.ofString "_law_acts"), (Str.ofString "_law_changes")]
theorem okay : Lx.okay = true := by decide +kernel
theorem good : (Lx.defs.all (Dd.good P0 Gx)) = true := by decide +kernel
theorem run_eq (w : World) : HandSHeadRun.RunEq R0 (PySem.W.view R0.prog [49]) (Lx.hook P0 2) (Lx.ob P0 2) 4000 loose w := by
  intro os
  kernel_rfl
end L_k05
end Rh

set_option Elab.async false
set_option linter.all false
set_option maxRecDepth 100000
set_option maxHeartbeats 0
namespace Rh
namespace L_k05
open PySem PySem.W PyProof.Rows Cd
theorem b0 : BaseC2 Lx.g Lx.tab := by repeat' (first | rfl | constructor)
theorem b1 : BaseL Lx.tab := by repeat' (first | rfl | constructor)
theorem b2 : BaseLC Lx.tab := by repeat' (first | rfl | constructor)
theorem law_true (ns : List Int) (h1 : ns.length ≤ 63) (h2 : ∀ z ∈ ns, Builtin.Int.intBits z ≤ 1048576) : Rh.run Lx.g Lx.tab 14 "law" [scrD ns] = .ok (.bool true) := law_k05 b0 b1 b2 rfl h1 h2 (by decide)
end L_k05
end Rh

open PySem PySem.W PySem.Calls PyProof.Rows Rh in
theorem PySem.Challenge.cw_ringhands_k05_acts_holds : PySem.Challenge.rw_ringhands_k05_acts.Holds := by
  w_on; o_law
  refine HandSHeadRun.head_any (r := OpenLaw.row PySem.Challenge.rw_ringhands_k05_acts) (q := view (OpenLaw.row PySem.Challenge.rw_ringhands_k05_acts).prog [49]) (H := L_k05.Lx.hook L_k05.P0 2) (ob := L_k05.Lx.ob L_k05.P0 2) (M := 4000) (loose := L_k05.loose) (d := HandSHeadRun.topDef (OpenLaw.row PySem.Challenge.rw_ringhands_k05_acts).prog 49) (kwd := []) (L_k05.Lx.ob_eq L_k05.P0 2)
    (by kernel_rfl) (fun s => by kernel_rfl) L_k05.run_eq (by kernel_rfl) (by kernel_rfl) (by kernel_rfl) (by rfl) (by first | assumption | decide +kernel) (by decide +kernel) ⟨rfl, rfl, rfl, rfl, rfl, by decide +kernel⟩ ?hw ?hc
  case hw => w_witness2
  case hc =>
    exact walk_R (l := PySem.Challenge.rw_ringhands_k05_acts) (n := 63) (k := 14) (nn := 2) (L := L_k05.Lx) (D := L_k05.dLaw) rfl (by decide) (by kernel_rfl) ⟨rfl, by decide, by decide⟩ (by kernel_rfl) (List.mem_of_getElem? (i := 34) rfl) rfl rfl L_k05.okay L_k05.binds L_k05.good L_k05.law_true

