import PyProof.Rows.All
import Wide.All
import OpenK.AllK
import Wide.FinOn
import HandS.ForMost
import HandS.Exc
import HandS.Strs
import HandS.Conv
import HandS.Zip
import HandS.Style
import HandS.SortInts
import HandS.IsInst
import HandS.TupAny
import HandS.TupMul
import HandS.Wide
import HandS.Walk
import HandS.SetFor
import PyProof.SeqIndex
import HandS.WordsExc
import KE.DataEq
import KE.DataCmp
import KE.DataMinMax
import KE.SortData
import KE.SortCalls
import PyProof.Claim2Refuses
import KE.DatumIndex
import KE.GoesEnum
import KE.GoesMore
import KE.GoesZip
import HandS.HeadHook2
import HandS.HeadHook1
import HandS.HeadEnd
import HandS.Head2
import HandS.Head1
import HandS.Head0
import HandS.Defaults
import HandS.Words
import HandS.More
import KE.KStateDown
import KE.KDictKeyed
import KE.KDictDisplayH
import KE.KDictWalk
import KE.KDictLaw
import KE.KeyNested
import PySem.Challenge.RW_batchtop_k29_lists_with_so_many_breaks
set_option Elab.async false
set_option linter.all false
set_option maxRecDepth 100000
set_option maxHeartbeats 4000000
namespace BT
open PySem
/-! ## data, slots, results -/
abbrev D := PyData
/-- a place: empty; a value; an object that this place alone holds; the object handed in to be changed -/
inductive Slot where
  | no
  | val (d : D)
  | own (d : D)
  | inp (d : D)
/-- the object that a place holds -/
def ownD : Slot → Option D
  | .own d => some d
  | .inp d => some d
  | _ => none
def ownL (x : Slot) : Bool := match ownD x with
  | some (.list _) => true
  | _ => false
/-- .. changed -/
def reOwn : Slot → D → Slot
  | .inp _, d => .inp d
  | _, d => .own d
abbrev Env := List Slot
inductive Res (α : Type) where
  | ok (a : α) (e : Env)
  | exc (c : String) (e : Env)
  | stuck
/-- a call's end: the value and what the first argument (where it is handed on to be changed) then is -/
inductive CR where
  | ok (d : D) (s : D)
  | exc (c : String) (s : D)
  | stuck
abbrev Calls := String → List D → D → CR

/-! ## the small language: places in the place of names -/
inductive Tg where
  | v (i : Nat)
  | p2 (a b : Tg)
  | p3 (a b c : Tg)
inductive Pr where
  | len | abs | sum | all | any | min | max | sorted | list | tuple | lenset | sortset | int | strI
  deriving DecidableEq
inductive Ty where
  | bool | int | str | list | tuple
  deriving DecidableEq
mutual
inductive IE where
  | k (d : D)
  | v (i : Nat)
  | b (i : Nat)
  | bin (op : Operator) (a b : IE)
  | neg (a : IE)
  | not (a : IE)
  | and (a b : IE)
  | or (a b : IE)
  | cmp (op : CmpOp) (a b : IE)
  | cmp2 (op op' : CmpOp) (a b c : IE)
  | isN (a : IE)
  | notN (a : IE)
  | ite (t a b : IE)
  | call (f : String) (as : IEs)
  | callF (f : String) (as : IEs)
  | callS (f : String) (i : Nat) (as : IEs)
  | callB (f : String) (i : Nat) (as : IEs)
  | pr (p : Pr) (a : IE)
  | lrg (a : IE)
  | trg (a : IE)
  | lrg2 (a b : IE)
  | min2 (a b : IE)
  | max2 (a b : IE)
  | isi (a : IE) (ts : List Ty)
  | ix (a i : IE)
  | slu (a hi : IE)
  | sll (a lo : IE)
  | slb (a lo hi : IE)
  | rev (a : IE)
  | index (a x : IE)
  | lst (as : IEs)
  | tup (as : IEs)
  | lc (own : List Nat) (e : IE) (t : Tg) (it : It)
  | lcf (own : List Nat) (e : IE) (t : Tg) (it : It) (c : IE)
  | popI (i : Nat) (e : IE)
  | pop (i : Nat)
  | dnew
  | dsp (k v : IE)
  | get1 (a k : IE)
  | get2 (a k x : IE)
  | dzip (a b : IE)
  | join (s : Str) (a : IE)
inductive IEs where
  | nil
  | cons (a : IE) (as : IEs)
inductive It where
  | e (a : IE)
  | r1 (a : IE)
  | r2 (a b : IE)
  | r3 (a b c : IE)
  | zip (a b : IE)
  | enum (a : IE)
  | items (a : IE)
end
mutual
inductive IS where
  | asg (i : Nat) (e : IE)
  | asgT (t : Tg) (e : IE)
  | asg2 (i j : Nat) (a b : IE)
  | asg3 (i j l : Nat) (a b c : IE)
  | setI (i : Nat) (x e : IE)
  | aug (i : Nat) (op : Operator) (e : IE)
  | app (i : Nat) (e : IE)
  | for_ (t : Tg) (it : It) (body : ISs)
  | while_ (t : IE) (body : ISs)
  | if_ (t : IE) (a b : ISs)
  | ret (e : IE)
  | retF (e : IE)
  | retO (i : Nat)
  | ex (e : IE)
  | raise (c : String)
  | pass
inductive ISs where
  | nil
  | cons (a : IS) (as : ISs)
end

/-! ## what the operations give -/
/-- the most items that a made list may have here -/
abbrev big : Nat := 1000000
def isLong (xs : List D) : Bool := decide (xs.length ≤ big)
def mulOk (i j : Int) : Bool := decide (i.natAbs < 18446744073709551616) || decide (j.natAbs < 18446744073709551616) || (decide (i.natAbs.log2 < 5000) && decide (j.natAbs.log2 < 5000))
def dvOk (j : Int) : Bool := decide (0 < j) && (decide (j < 1073741824) || decide (j.natAbs.log2 < 9000))
def dbin (op : Operator) (x y : D) : Option D :=
  match op with
  | .Add => match x, y with
    | .int i, .int j => some (.int (i + j))
    | .list a, .list b => if isLong (a ++ b) then some (.list (a ++ b)) else none
    | .tuple a, .tuple b => if isLong (a ++ b) then some (.tuple (a ++ b)) else none
    | _, _ => none
  | .Sub => match x, y with
    | .int i, .int j => some (.int (i - j))
    | _, _ => none
  | .Mult => match x, y with
    | .int i, .int j => if mulOk i j then some (.int (i * j)) else none
    | .list a, .int j => if decide (0 ≤ j ∧ j ≤ 1000 ∧ a.length ≤ 1000) then some (.list (List.replicate j.toNat a).flatten) else none
    | .tuple a, .int j => if decide (1 ≤ j ∧ j ≤ 1000 ∧ a.length ≤ 1000 ∧ a.length ≠ 0) then some (.tuple (List.replicate j.toNat a).flatten) else none
    | _, _ => none
  | .FloorDiv => match x, y with
    | .int i, .int j => if dvOk j then some (.int (i / j)) else none
    | _, _ => none
  | .Mod => match x, y with
    | .int i, .int j => if decide (0 < j) then some (.int (i % j)) else none
    | _, _ => none
  | .Pow => match x, y with
    | .int i, .int j => if decide (0 ≤ j ∧ j ≤ 1000000 ∧ i.natAbs < 18446744073709551616) then some (.int (i ^ j.toNat)) else none
    | _, _ => none
  | _ => none
def items? : D → Option (List D)
  | .list xs => some xs
  | .tuple xs => some xs
  | _ => none
def strI (i : Int) : Str := Str.ofString (toString i)
/-- one sign of a text -/
def chD (c : Nat) : D := .str ⟨#[c]⟩
def chs (z : Str) : List D := z.cps.toList.map chD
def iter? : D → Option (List D)
  | .list xs => some xs
  | .tuple xs => some xs
  | .dict kvs => some (kvs.map (·.1))
  | .str z => if decide (z.length ≤ 1000) then some (chs z) else none
  | _ => none
def strs? : List D → Option (List Str)
  | [] => some []
  | .str i :: xs => (strs? xs).map (i :: ·)
  | _ => none
/-- keys: ints, tuples of keys -/
def keyN : Nat → D → Bool
  | _, .int _ => true
  | n + 1, .tuple ds => ds.all (keyN n)
  | _, _ => false
def isDct : D → Bool
  | .dict _ => true
  | _ => false
def isTup : D → Bool
  | .tuple _ => true
  | _ => false
def kOk (kvs : List (D × D)) (k : D) : Bool := keyN 8 k && (match kvs with | [] => true | p :: _ => isTup p.1 == isTup k)
def dlook : List (D × D) → D → Option D
  | [], _ => none
  | p :: kvs, k => if PyData.eqv p.1 k then some p.2 else dlook kvs k
def dstore : List (D × D) → D → D → List (D × D)
  | [], k, v => [(k, v)]
  | p :: kvs, k, v => if PyData.eqv p.1 k then (p.1, v) :: kvs else p :: dstore kvs k v
def int? : D → Option Int
  | .int i => some i
  | _ => none
def bool? : D → Option Bool
  | .bool b => some b
  | _ => none
def ints? : List D → Option (List Int)
  | [] => some []
  | .int i :: xs => (ints? xs).map (i :: ·)
  | _ => none
def bools? : List D → Option (List Bool)
  | [] => some []
  | .bool b :: xs => (bools? xs).map (b :: ·)
  | _ => none
def okEq (d e : D) : Bool := d.plain && e.plain && decide (d.depth ≤ 20) && decide (e.depth ≤ 20)
def okIn (x : D) (xs : List D) : Bool := x.plain && PyData.plainAll xs && decide (x.depth ≤ 20) && decide (PyData.depthAll xs ≤ 20)
def dlt (x y : D) : Option Bool :=
  match x, y with
  | .int i, .int j => some (decide (i < j))
  | _, _ => none
def din (x y : D) : Option Bool :=
  match y with
  | .list ys => if okIn x ys then some (ys.any fun d => PyData.eqv d x) else none
  | .tuple ys => if okIn x ys then some (ys.any fun d => PyData.eqv d x) else none
  | .dict kvs => if kOk kvs x then some (dlook kvs x).isSome else none
  | .str z => match x with
    | .str c => match c.cps.toList with
      | [a] => some (decide (a ∈ z.cps.toList))
      | _ => none
    | _ => none
  | _ => none
def dcmp (op : CmpOp) (x y : D) : Option Bool :=
  match op with
  | .Eq => if okEq x y then some (PyData.eqv x y) else none
  | .NotEq => if okEq x y then some (!PyData.eqv x y) else none
  | .Lt => match x, y with | .int i, .int j => some (decide (i < j)) | _, _ => none
  | .LtE => match x, y with | .int i, .int j => some (decide (i ≤ j)) | _, _ => none
  | .Gt => match x, y with | .int i, .int j => some (decide (j < i)) | _, _ => none
  | .GtE => match x, y with | .int i, .int j => some (decide (j ≤ i)) | _, _ => none
  | .In => din x y
  | .NotIn => (din x y).map fun b => !b
  | .Is => match x, y with | .bool i, .bool j => some (i == j) | _, _ => none
  | .IsNot => match x, y with | .bool i, .bool j => some (!(i == j)) | _, _ => none
def isNone : D → Bool
  | .none => true
  | _ => false
def isTy (d : D) : Ty → Bool
  | .bool => match d with | .bool _ => true | _ => false
  | .int => match d with | .bool _ => true | .int _ => true | _ => false
  | .str => match d with | .str _ => true | _ => false
  | .list => match d with | .list _ => true | _ => false
  | .tuple => match d with | .tuple _ => true | _ => false
def rngL (lo : Int) (n : Nat) : List D := (List.range n).map fun i : Nat => .int (lo + (i : Int))
def rngC (lo c : Int) (n : Nat) : List D := (List.range n).map fun i : Nat => .int (lo + (i : Int) * c)
def smallI (i : Int) : Bool := decide (-1000000000 ≤ i ∧ i ≤ 1000000000)
def smallR (i : Int) : Bool := decide (-1000000 ≤ i ∧ i ≤ 1000000)
def sortI (ns : List Int) : List Int := ns.mergeSort fun a b => decide (a ≤ b)
/-- each int once -/
def dd : List Int → List Int
  | [] => []
  | x :: xs => if x ∈ xs then dd xs else x :: dd xs
def minI : List Int → Option Int
  | [] => none
  | x :: xs => some (xs.foldl (fun a b => if b < a then b else a) x)
def maxI : List Int → Option Int
  | [] => none
  | x :: xs => some (xs.foldl (fun a b => if b > a then b else a) x)
/-- a tuple with an item / a text -/
def isTup1 : D → Bool
  | .tuple (_ :: _) => true
  | _ => false
def isStrD : D → Bool
  | .str _ => true
  | _ => false
/-- data that can be ordered -/
def ordOk (xs : List D) : Bool := xs.all (fun x => xs.all fun y => PySem.W.alike x y) && (xs.all isTup1 || xs.all isStrD) && PyData.plainAll xs && decide (PyData.depthAll xs ≤ 20)
def minDD : List D → Option D
  | [] => none
  | y :: ys => if ordOk (y :: ys) then some (PySem.W.minD y ys) else none
def minQ (xs : List D) (o : Option (List Int)) : Option D := match o with
  | some ns => (minI ns).map PyData.int
  | none => minDD xs
def isLst : D → Bool
  | .list _ => true
  | _ => false
def dleD (a b : D) : Bool := !PySem.W.dataLt b a
def sortQ (l : Bool) (xs : List D) (o : Option (List Int)) : Option D := match o with
  | some ns => some (.list ((sortI ns).map PyData.int))
  | none => if l && ordOk xs && decide (xs.length ≤ 1000000) then some (.list (xs.mergeSort dleD)) else none
def dpr (p : Pr) (x : D) : Option D :=
  match p with
  | .len => match x with
    | .list xs => some (.int (xs.length : Nat))
    | .tuple xs => some (.int (xs.length : Nat))
    | .str z => if decide (z.length ≤ 1000) then some (.int (z.length : Nat)) else none
    | _ => none
  | .abs => match x with | .int i => some (.int (if i < 0 then -i else i)) | _ => none
  | .sum => match x with | .list xs => (ints? xs).map fun ns => .int ns.sum | _ => none
  | .all => match x with | .list xs => (bools? xs).map fun bs => .bool (bs.all id) | _ => none
  | .any => match x with | .list xs => (bools? xs).map fun bs => .bool (bs.any id) | _ => none
  | .min => match x with | .list xs => minQ xs (ints? xs) | _ => none
  | .max => (items? x).bind fun xs => (ints? xs).bind fun ns => (maxI ns).map PyData.int
  | .sorted => (items? x).bind fun xs => sortQ (isLst x) xs (ints? xs)
  | .list => (items? x).map PyData.list
  | .tuple => (items? x).map PyData.tuple
  | .lenset => match x with
    | .tuple xs => if decide (xs.length ≤ 4000) then (ints? xs).map fun ns => .int ((dd ns).length : Nat) else none
    | _ => none
  | .sortset => match x with
    | .tuple xs => if decide (xs.length ≤ 60) then (ints? xs).map fun ns => .list ((sortI (dd ns)).map PyData.int) else none
    | _ => none
  | .int => match x with
    | .int i => some (.int i)
    | .bool b => some (.int (if b then 1 else 0))
    | _ => none
  | .strI => match x with
    | .int i => if decide (i.natAbs.log2 < 1920) then some (.str (strI i)) else none
    | _ => none
def atD (xs : List D) (i : Int) : Option D :=
  if 0 ≤ i then (if i < xs.length then xs[i.toNat]? else none) else if -(xs.length : Int) ≤ i then xs[(i + xs.length).toNat]? else none
def dix (x i : D) : Option D :=
  match x with
  | .list xs => (int? i).bind fun j => atD xs j
  | .tuple xs => (int? i).bind fun j => atD xs j
  | .dict kvs => if kOk kvs i then dlook kvs i else none
  | .str z => if decide (z.length ≤ 1000) then (int? i).bind fun j => atD (chs z) j else none
  | _ => none
def dget (x k y : D) : Option D :=
  match x with
  | .dict kvs => if kOk kvs k then some ((dlook kvs k).getD y) else none
  | _ => none
def dstoreAll (acc : List (D × D)) : List (D × D) → List (D × D)
  | [] => acc
  | p :: ps => dstoreAll (dstore acc p.1 p.2) ps
/-- dict(zip(x, y)): whole numbers as keys -/
def dzipD (x y : D) : Option D := (items? x).bind fun xs => (items? y).bind fun ys => if decide (xs.length ≤ 1000) then (ints? xs).map fun _ => .dict (dstoreAll [] (xs.zip ys)) else none
/-- s.join(x), s empty -/
def joinD (s : Str) (x : D) : Option D := (items? x).bind fun xs => if decide (xs.length ≤ 1000) && decide (s.cps.size = 0) then (strs? xs).bind fun zs => if zs.all (fun z => decide (z.length ≤ 1000)) then some (.str ⟨(zs.flatMap fun z => z.cps.toList).toArray⟩) else none else none
def sIx (n d : Nat) : Option Int → Nat
  | none => d
  | some i => if 0 ≤ i then min i.toNat n else (i + n).toNat
def cutD (xs : List D) (lo hi : Option Int) : List D := (xs.drop (sIx xs.length 0 lo)).take (sIx xs.length xs.length hi - sIx xs.length 0 lo)
def dsl (x : D) (lo hi : Option Int) : Option D :=
  match x with
  | .list xs => some (.list (cutD xs lo hi))
  | .tuple xs => some (.tuple (cutD xs lo hi))
  | .str z => if decide (z.length ≤ 1000) then some (.str ⟨((z.cps.toList.drop (sIx z.length 0 lo)).take (sIx z.length z.length hi - sIx z.length 0 lo)).toArray⟩) else none
  | _ => none
def drev (x : D) : Option D :=
  match x with
  | .list xs => some (.list xs.reverse)
  | .tuple xs => some (.tuple xs.reverse)
  | _ => none
def dindex (x y : D) : Option D := (items? x).bind fun xs => (ints? xs).bind fun ns => (int? y).bind fun k => if k ∈ ns then some (.int (ns.idxOf k : Nat)) else none

/-! ## slots -/
def slot (e : Env) (i : Nat) : Slot := e.getD i .no
def rd (e : Env) (i : Nat) : Option D :=
  match slot e i with
  | .val d => some d
  | .own d => some d
  | .inp d => some d
  | .no => none
def rr (a : IE) (x : D) (e : Env) : Option D :=
  match a with
  | .b i => rd e i
  | _ => some x
def ofO (o : Option D) (e : Env) : Res D :=
  match o with
  | some d => .ok d e
  | none => .stuck
def wipeE (e : Env) : List Nat → Env
  | [] => e
  | v :: vs => (wipeE e vs).set v .no
/-- the block's own places as they were ahead of it -/
def backE (e0 e : Env) : List Nat → Env
  | [] => e
  | v :: vs => (backE e0 e vs).set v (slot e0 v)
def bindT : Tg → D → Env → Option Env
  | .v i, x, e => some (e.set i (.val x))
  | .p2 a b, x, e => match x with
    | .tuple [y, z] => (bindT a y e).bind fun e1 => bindT b z e1
    | _ => none
  | .p3 a b c, x, e => match x with
    | .tuple [y, z, u] => (bindT a y e).bind fun e1 => (bindT b z e1).bind fun e2 => bindT c u e2
    | _ => none
def lcGo (f : Env → Res (Option D)) (t : Tg) (vs : List Nat) : List D → Env → Res (List D)
  | [], e => .ok [] e
  | x :: xs, e =>
    match bindT t x (wipeE e vs) with
    | none => .stuck
    | some e1 => match f e1 with
      | .ok r e2 => match lcGo f t vs xs e2 with
        | .ok ys e3 => .ok (match r with | some y => y :: ys | none => ys) e3
        | _ => .stuck
      | _ => .stuck
def lcEnd (vs : List Nat) (e0 : Env) (r : Res (List D)) : Res D :=
  match r with
  | .ok ys e => .ok (.list ys) (backE e0 e vs)
  | _ => .stuck
def noOwn (e : Env) (vs : List Nat) : Bool := vs.all fun v => (ownD (slot e v)).isNone

/-- no object -/
def isFlat : D → Bool
  | .none => true
  | .bool _ => true
  | .int _ => true
  | .str _ => true
  | _ => false
section
variable (C : Calls)
mutual
def ev : IE → Env → Res D
  | .k d, e => .ok d e
  | .v i, e => match slot e i with
    | .val d => .ok d e
    | .own d => .ok d (e.set i (.val d))
    | _ => .stuck
  | .b i, e => ofO (rd e i) e
  | .bin op a b, e => match ev a e with
    | .ok x e1 => match ev b e1 with
      | .ok y e2 => ofO ((rr a x e2).bind fun x' => dbin op x' y) e2
      | r => r
    | r => r
  | .neg a, e => match ev a e with
    | .ok x e1 => ofO ((int? x).map fun i => .int (-i)) e1
    | r => r
  | .not a, e => match ev a e with
    | .ok x e1 => ofO ((bool? x).map fun c => .bool (!c)) e1
    | r => r
  | .and a b, e => match ev a e with
    | .ok (.bool true) e1 => ev b e1
    | .ok (.bool false) e1 => .ok (.bool false) e1
    | .exc c e1 => .exc c e1
    | _ => .stuck
  | .or a b, e => match ev a e with
    | .ok (.bool false) e1 => ev b e1
    | .ok (.bool true) e1 => .ok (.bool true) e1
    | .exc c e1 => .exc c e1
    | _ => .stuck
  | .cmp op a b, e => match ev a e with
    | .ok x e1 => match ev b e1 with
      | .ok y e2 => ofO ((rr a x e2).bind fun x' => (dcmp op x' y).map PyData.bool) e2
      | r => r
    | r => r
  | .cmp2 op op' a b c, e => match ev a e with
    | .ok x e1 => match ev b e1 with
      | .ok y e2 => match dcmp op x y with
        | some true => match ev c e2 with
          | .ok z e3 => ofO ((dcmp op' y z).map PyData.bool) e3
          | r => r
        | some false => .ok (.bool false) e2
        | none => .stuck
      | r => r
    | r => r
  | .isN a, e => match ev a e with
    | .ok x e1 => .ok (.bool (isNone x)) e1
    | r => r
  | .notN a, e => match ev a e with
    | .ok x e1 => .ok (.bool (!isNone x)) e1
    | r => r
  | .ite t a b, e => match ev t e with
    | .ok (.bool true) e1 => ev a e1
    | .ok (.bool false) e1 => ev b e1
    | .exc c e1 => .exc c e1
    | _ => .stuck
  | .call f as, e => match evs as e with
    | .ok ds e1 => match C f ds .none with
      | .ok d _ => .ok d e1
      | .exc c _ => .exc c e1
      | .stuck => .stuck
    | .exc c e1 => .exc c e1
    | .stuck => .stuck
  | .callF f as, e => match evs as e with
    | .ok ds e1 => match C f ds .none with
      | .ok d _ => .ok d e1
      | .exc c _ => .exc c e1
      | .stuck => .stuck
    | .exc c e1 => .exc c e1
    | .stuck => .stuck
  | .callS f i as, e => if (ownD (slot e i)).isSome then (match evs as e with
    | .ok ds e1 => match ownD (slot e1 i) with
      | some s => match C f ds s with
        | .ok d s' => .ok d (e1.set i (reOwn (slot e1 i) s'))
        | .exc c s' => .exc c (e1.set i (reOwn (slot e1 i) s'))
        | .stuck => .stuck
      | none => .stuck
    | .exc c e1 => .exc c e1
    | .stuck => .stuck) else .stuck
  | .callB f i as, e => match slot e i with
    | .val d0 => match evs as e with
      | .ok ds e1 => match C f (d0 :: ds) .none with
        | .ok d _ => .ok d e1
        | .exc c _ => .exc c e1
        | .stuck => .stuck
      | .exc c e1 => .exc c e1
      | .stuck => .stuck
    | .own _ => match evs as e with
      | .ok ds e1 => match slot e1 i with
        | .own d1 => match C f (d1 :: ds) .none with
          | .ok d _ => if isFlat d then .ok d e1 else .stuck
          | .exc c _ => .exc c e1
          | .stuck => .stuck
        | _ => .stuck
      | .exc c e1 => .exc c e1
      | .stuck => .stuck
    | _ => .stuck
  | .pr p a, e => match ev a e with
    | .ok x e1 => ofO (dpr p x) e1
    | r => r
  | .lrg a, e => match ev a e with
    | .ok x e1 => ofO ((int? x).bind fun n => if smallR n then some (.list (rngL 0 n.toNat)) else none) e1
    | r => r
  | .trg a, e => match ev a e with
    | .ok x e1 => ofO ((int? x).bind fun n => if smallR n then some (.tuple (rngL 0 n.toNat)) else none) e1
    | r => r
  | .lrg2 a b, e => match ev a e with
    | .ok x e1 => match ev b e1 with
      | .ok y e2 => ofO ((int? x).bind fun m => (int? y).bind fun n => if smallR m && smallR n then some (.list (rngL m (n - m).toNat)) else none) e2
      | r => r
    | r => r
  | .min2 a b, e => match ev a e with
    | .ok x e1 => match ev b e1 with
      | .ok y e2 => ofO ((int? x).bind fun i => (int? y).map fun j => .int (if j < i then j else i)) e2
      | r => r
    | r => r
  | .max2 a b, e => match ev a e with
    | .ok x e1 => match ev b e1 with
      | .ok y e2 => ofO ((int? x).bind fun i => (int? y).map fun j => .int (if j > i then j else i)) e2
      | r => r
    | r => r
  | .isi a ts, e => match ev a e with
    | .ok x e1 => if isDct x then .stuck else .ok (.bool (ts.any (isTy x))) e1
    | r => r
  | .ix a b, e => match ev a e with
    | .ok x e1 => match ev b e1 with
      | .ok y e2 => ofO ((rr a x e2).bind fun x' => dix x' y) e2
      | r => r
    | r => r
  | .slu a b, e => match ev a e with
    | .ok x e1 => match ev b e1 with
      | .ok y e2 => ofO ((rr a x e2).bind fun x' => (int? y).bind fun j => dsl x' none (some j)) e2
      | r => r
    | r => r
  | .sll a b, e => match ev a e with
    | .ok x e1 => match ev b e1 with
      | .ok y e2 => ofO ((rr a x e2).bind fun x' => (int? y).bind fun j => dsl x' (some j) none) e2
      | r => r
    | r => r
  | .slb a b c, e => match ev a e with
    | .ok x e1 => match ev b e1 with
      | .ok y e2 => match int? y with
        | some j => match ev c e2 with
          | .ok z e3 => ofO ((rr a x e3).bind fun x' => (int? z).bind fun l => dsl x' (some j) (some l)) e3
          | r => r
        | none => .stuck
      | r => r
    | r => r
  | .rev a, e => match ev a e with
    | .ok x e1 => ofO (drev x) e1
    | r => r
  | .index a b, e => match ev a e with
    | .ok x e1 => if isTy x .tuple then (match ev b e1 with
      | .ok y e2 => ofO (dindex x y) e2
      | r => r) else .stuck
    | r => r
  | .lst as, e => match evs as e with
    | .ok ds e1 => .ok (.list ds) e1
    | .exc c e1 => .exc c e1
    | .stuck => .stuck
  | .tup as, e => match evs as e with
    | .ok ds e1 => .ok (.tuple ds) e1
    | .exc c e1 => .exc c e1
    | .stuck => .stuck
  | .lc vs x t it, e => match evIt it e with
    | .ok xs e1 => if noOwn e1 vs && isLong xs then lcEnd vs e1 (lcGo (fun e => match ev x e with | .ok y e' => .ok (some y) e' | _ => .stuck) t vs xs e1) else .stuck
    | .exc c e1 => .exc c e1
    | .stuck => .stuck
  | .lcf vs x t it c, e => match evIt it e with
    | .ok xs e1 => if noOwn e1 vs && isLong xs then lcEnd vs e1 (lcGo (fun e => match ev c e with
        | .ok (.bool true) e2 => match ev x e2 with | .ok y e' => .ok (some y) e' | _ => .stuck
        | .ok (.bool false) e2 => .ok none e2
        | _ => .stuck) t vs xs e1) else .stuck
    | .exc c e1 => .exc c e1
    | .stuck => .stuck
  | .popI i a, e => if ownL (slot e i) then (match ev a e with
    | .ok x e1 => match ownD (slot e1 i), x with
      | some (.list xs), .int j => match atD xs j with
        | some y => if 0 ≤ j then .ok y (e1.set i (reOwn (slot e1 i) (.list (xs.eraseIdx j.toNat)))) else .stuck
        | none => .stuck
      | _, _ => .stuck
    | r => r) else .stuck
  | .pop i, e => match ownD (slot e i) with
    | some (.list xs) => match xs.getLast? with
      | some y => .ok y (e.set i (reOwn (slot e i) (.list xs.dropLast)))
      | none => .stuck
    | _ => .stuck
  | .dnew, e => .ok (.dict []) e
  | .dsp a b, e => match ev a e with
    | .ok x e1 => match ev b e1 with
      | .ok y e2 => if keyN 8 x && isTup x then .ok (.dict [(x, y)]) e2 else .stuck
      | r => r
    | r => r
  | .get1 a b, e => match ev a e with
    | .ok x e1 => if isDct x then (match ev b e1 with
      | .ok y e2 => ofO ((rr a x e2).bind fun x' => dget x' y .none) e2
      | r => r) else .stuck
    | r => r
  | .get2 a b c, e => match ev a e with
    | .ok x e1 => if isDct x then (match ev b e1 with
      | .ok y e2 => match ev c e2 with
        | .ok z e3 => ofO ((rr a x e3).bind fun x' => dget x' y z) e3
        | r => r
      | r => r) else .stuck
    | r => r
  | .dzip a b, e => match ev a e with
    | .ok x e1 => match ev b e1 with
      | .ok y e2 => ofO (dzipD x y) e2
      | r => r
    | r => r
  | .join s a, e => match ev a e with
    | .ok x e1 => ofO (joinD s x) e1
    | r => r
def evs : IEs → Env → Res (List D)
  | .nil, e => .ok [] e
  | .cons a as, e => match ev a e with
    | .ok d e1 => match evs as e1 with
      | .ok ds e2 => .ok (d :: ds) e2
      | r => r
    | .exc c e1 => .exc c e1
    | .stuck => .stuck
def evIt : It → Env → Res (List D)
  | .e a, e => match ev a e with
    | .ok x e1 => match iter? x with
      | some xs => .ok xs e1
      | none => .stuck
    | .exc c e1 => .exc c e1
    | .stuck => .stuck
  | .items a, e => match ev a e with
    | .ok x e1 => match x with
      | .dict kvs => .ok (kvs.map fun p => .tuple [p.1, p.2]) e1
      | _ => .stuck
    | .exc c e1 => .exc c e1
    | .stuck => .stuck
  | .r1 a, e => match ev a e with
    | .ok (.int n) e1 => if smallI n then .ok (rngL 0 n.toNat) e1 else .stuck
    | .exc c e1 => .exc c e1
    | _ => .stuck
  | .r2 a b, e => match ev a e with
    | .ok (.int m) e1 => match ev b e1 with
      | .ok (.int n) e2 => if smallI m && smallI n then .ok (rngL m (n - m).toNat) e2 else .stuck
      | .exc c e2 => .exc c e2
      | _ => .stuck
    | .exc c e1 => .exc c e1
    | _ => .stuck
  | .r3 a b c, e => match ev a e with
    | .ok (.int m) e1 => match ev b e1 with
      | .ok (.int n) e2 => match ev c e2 with
        | .ok (.int l) e3 => if smallI m && smallI n && decide (l = -1) then .ok (rngC m (-1) (m - n).toNat) e3 else .stuck
        | .exc c e3 => .exc c e3
        | _ => .stuck
      | .exc c e2 => .exc c e2
      | _ => .stuck
    | .exc c e1 => .exc c e1
    | _ => .stuck
  | .zip a b, e => match ev a e with
    | .ok x e1 => match ev b e1 with
      | .ok y e2 => match items? x, items? y with
        | some xs, some ys => .ok ((xs.zip ys).map fun p => .tuple [p.1, p.2]) e2
        | _, _ => .stuck
      | .exc c e2 => .exc c e2
      | .stuck => .stuck
    | .exc c e1 => .exc c e1
    | .stuck => .stuck
  | .enum a, e => match ev a e with
    | .ok x e1 => match items? x with
      | some xs => .ok (xs.zipIdx.map fun p => .tuple [.int (p.2 : Nat), p.1]) e1
      | none => .stuck
    | .exc c e1 => .exc c e1
    | .stuck => .stuck
end

/-! ## statements -/
def augI (op : Operator) (x : Int) (y : D) : Option D :=
  match op, y with
  | .Add, .int j => some (.int (x + j))
  | .Sub, .int j => some (.int (x - j))
  | .Mult, .int j => if mulOk x j then some (.int (x * j)) else none
  | _, _ => none
inductive Fl where
  | next
  | ret (own : Bool) (d : D)
def augL (i : Nat) (op : Operator) (y : D) (e1 : Env) : Res Fl :=
  match op, ownD (slot e1 i), items? y with
  | .Add, some (.list xs), some ys => if isLong (xs ++ ys) then .ok .next (e1.set i (reOwn (slot e1 i) (.list (xs ++ ys)))) else .stuck
  | _, _, _ => .stuck
/-- a made list goes into a place as the place's own -/
def freshE : IE → Bool
  | .lst _ => true
  | .lc .. => true
  | .lcf .. => true
  | .callF .. => true
  | .pr p _ => match p with | .list => true | .sorted => true | .sortset => true | _ => false
  | .lrg _ => true
  | .lrg2 .. => true
  | .bin op _ _ => match op with | .Add => true | .Mult => true | _ => false
  | .slu .. => true
  | .sll .. => true
  | .slb .. => true
  | .rev .. => true
  | .dnew => true
  | .dsp .. => true
  | .dzip .. => true
  | _ => false
def mkSlot (f : Bool) (d : D) : Slot :=
  match f, d with
  | true, .list xs => .own (.list xs)
  | true, .dict xs => .own (.dict xs)
  | _, _ => .val d
def forGo (t : Tg) (body : Env → Res Fl) : List D → Env → Res Fl
  | [], e => .ok .next e
  | x :: xs, e =>
    match bindT t x e with
    | none => .stuck
    | some e1 => match body e1 with
      | .ok .next e2 => forGo t body xs e2
      | r => r
def whileGo (t : Env → Res D) (body : Env → Res Fl) : Nat → Env → Res Fl
  | 0, _ => .stuck
  | n + 1, e =>
    match t e with
    | .ok (.bool true) e1 => match body e1 with
      | .ok .next e2 => whileGo t body n e2
      | r => r
    | .ok (.bool false) e1 => .ok .next e1
    | .exc c e1 => .exc c e1
    | _ => .stuck
abbrev fuel : Nat := 1000000
mutual
def exec : IS → Env → Res Fl
  | .asg i a, e => match ev C a e with
    | .ok d e1 => .ok .next (e1.set i (mkSlot (freshE a) d))
    | .exc c e1 => .exc c e1
    | .stuck => .stuck
  | .asgT t a, e => match ev C a e with
    | .ok d e1 => match bindT t d e1 with
      | some e2 => .ok .next e2
      | none => .stuck
    | .exc c e1 => .exc c e1
    | .stuck => .stuck
  | .asg2 i j a b, e => match ev C a e with
    | .ok x e1 => match ev C b e1 with
      | .ok y e2 => .ok .next ((e2.set i (mkSlot (freshE a) x)).set j (mkSlot (freshE b) y))
      | .exc c e2 => .exc c e2
      | .stuck => .stuck
    | .exc c e1 => .exc c e1
    | .stuck => .stuck
  | .asg3 i j l a b c, e => match ev C a e with
    | .ok x e1 => match ev C b e1 with
      | .ok y e2 => match ev C c e2 with
        | .ok z e3 => .ok .next (((e3.set i (mkSlot (freshE a) x)).set j (.val y)).set l (mkSlot (freshE c) z))
        | .exc c e3 => .exc c e3
        | .stuck => .stuck
      | .exc c e2 => .exc c e2
      | .stuck => .stuck
    | .exc c e1 => .exc c e1
    | .stuck => .stuck
  | .setI i x a, e => match ev C a e with
    | .ok d e1 => if (ownD (slot e1 i)).isSome then (match ev C x e1 with
      | .ok y e2 => match ownD (slot e2 i), y with
        | some (.list xs), .int j => match atD xs j with
          | some _ => .ok .next (e2.set i (reOwn (slot e2 i) (.list (xs.set (if 0 ≤ j then j.toNat else (j + xs.length).toNat) d))))
          | none => .stuck
        | some (.dict kvs), k => if kOk kvs k && decide (kvs.length < big) then .ok .next (e2.set i (reOwn (slot e2 i) (.dict (dstore kvs k d)))) else .stuck
        | _, _ => .stuck
      | .exc c e2 => .exc c e2
      | .stuck => .stuck) else .stuck
    | .exc c e1 => .exc c e1
    | .stuck => .stuck
  | .aug i op a, e => match slot e i with
    | .val (.int x) => match ev C a e with
      | .ok y e1 => match augI op x y with
        | some z => .ok .next (e1.set i (.val z))
        | none => .stuck
      | .exc c e1 => .exc c e1
      | .stuck => .stuck
    | .own (.list _) => match ev C a e with
      | .ok y e1 => augL i op y e1
      | .exc c e1 => .exc c e1
      | .stuck => .stuck
    | _ => .stuck
  | .app i a, e => if ownL (slot e i) then (match ev C a e with
    | .ok y e1 => match ownD (slot e1 i) with
      | some (.list xs) => if decide (xs.length < big) then .ok .next (e1.set i (reOwn (slot e1 i) (.list (xs ++ [y])))) else .stuck
      | _ => .stuck
    | .exc c e1 => .exc c e1
    | .stuck => .stuck) else .stuck
  | .for_ t it body, e => match evIt C it e with
    | .ok xs e1 => forGo t (execs body) xs e1
    | .exc c e1 => .exc c e1
    | .stuck => .stuck
  | .while_ t body, e => whileGo (ev C t) (execs body) fuel e
  | .if_ t a b, e => match ev C t e with
    | .ok (.bool true) e1 => execs a e1
    | .ok (.bool false) e1 => execs b e1
    | .exc c e1 => .exc c e1
    | _ => .stuck
  | .ret a, e => match ev C a e with
    | .ok d e1 => .ok (.ret false d) e1
    | .exc c e1 => .exc c e1
    | .stuck => .stuck
  | .retF a, e => match ev C a e with
    | .ok d e1 => if freshE a && (isTy d .list || isDct d) then .ok (.ret true d) e1 else .stuck
    | .exc c e1 => .exc c e1
    | .stuck => .stuck
  | .retO i, e => match slot e i with
    | .own d => .ok (.ret true d) (e.set i .no)
    | _ => .stuck
  | .ex a, e => match ev C a e with
    | .ok _ e1 => .ok .next e1
    | .exc c e1 => .exc c e1
    | .stuck => .stuck
  | .raise c, e => .exc c e
  | .pass, e => .ok .next e
def execs : ISs → Env → Res Fl
  | .nil, e => .ok .next e
  | .cons a as, e => match exec a e with
    | .ok .next e1 => execs as e1
    | r => r
end
end

/-! ## defs -/
structure Fn where
  /-- how many parameters, the one handed on to be changed not counted; all places; is the first parameter changed; does it give a new list out -/
  ps : Nat
  n : Nat
  inout : Bool
  fresh : Bool
  body : ISs
abbrev Tab := String → Option Fn
def envOf (f : Fn) (ds : List D) (s : D) : Env :=
  (if f.inout then [Slot.inp s] else []) ++ ds.map Slot.val ++ List.replicate (f.n - ds.length - (if f.inout then 1 else 0)) Slot.no
def selfOf (f : Fn) (e : Env) : Option D :=
  if f.inout then (match slot e 0 with | .inp s => some s | _ => none) else some .none
def runFn (C : Calls) (f : Fn) (ds : List D) (s : D) : CR :=
  if ds.length = f.ps then
    match execs C f.body (envOf f ds s) with
    | .ok r e => match selfOf f e, r with
      | some s', .ret o d => if o == f.fresh then .ok d s' else .stuck
      | some s', .next => if f.fresh then .stuck else .ok .none s'
      | none, _ => .stuck
    | .exc c e => match selfOf f e with
      | some s' => .exc c s'
      | none => .stuck
    | .stuck => .stuck
  else .stuck
def callk (T : Tab) : Nat → Calls
  | 0 => fun _ _ _ => .stuck
  | k + 1 => fun f ds s => match T f with
    | some fn => runFn (callk T k) fn ds s
    | none => .stuck
end BT
namespace BT
open PySem PySem.Spec PyProof.Rows L2
/-! ## what a value of the machine stands for: F is the part of the abstract heap that never changes -/
def TupAt (K : PySem.W.Frag) (F : Hp) (a : Addr) (xs : List V) : Prop :=
  xs.length ≤ sizeLine ∧ ((∃ o, F a = some (.frz o (.tup xs)) ∧ o.dict = none ∧ o.cls = .type "tuple") ∨
    ∃ (o : Obj) (its : Array Value) (n : Nat), K.lookup a = some o ∧ o.cls = .type "tuple" ∧ o.dict = none ∧ o.data = .seq its n ∧ its.size ≤ sizeLine ∧ Vals xs its.toList)
def LstAt (K : PySem.W.Frag) (F : Hp) (a : Addr) (xs : List V) : Prop :=
  xs.length ≤ sizeLine ∧ (F a = some (.lst xs) ∨ (∃ o, F a = some (.frz o (.lst xs))) ∨
    ∃ (o : Obj) (its : Array Value) (n : Nat), K.lookup a = some o ∧ o.cls = .type "list" ∧ o.dict = none ∧ o.data = .seq its n ∧ its.size ≤ sizeLine ∧ Vals xs its.toList)
theorem TupAt.sq {K : PySem.W.Frag} {F : Hp} {a : Addr} {xs : List V} (h : TupAt K F a xs) : SqT K F a xs := by
  rcases h.2 with ⟨o, e, _⟩ | ⟨o, its, n, e, c, _, d, z, r⟩
  · exact .inl (.inr ⟨o, e⟩)
  · exact .inr ⟨o, its, n, e, c, d, z, r⟩
theorem LstAt.sq {K : PySem.W.Frag} {F : Hp} {a : Addr} {xs : List V} (h : LstAt K F a xs) : SqL K F a xs := by
  rcases h.2 with e | ⟨o, e⟩ | ⟨o, its, n, e, c, d, d2, z, r⟩
  · exact .inl (.inl e)
  · exact .inl (.inr ⟨o, e⟩)
  · exact .inr ⟨o, its, n, e, c, d, d2, z, r⟩
theorem TupAt.mono {K : PySem.W.Frag} {F F' : Hp} {a : Addr} {xs : List V} (h : TupAt K F a xs) (s : Same F F') : TupAt K F' a xs :=
  ⟨h.1, h.2.imp (fun ⟨o, e, d⟩ => ⟨o, s _ _ e, d⟩) id⟩
theorem LstAt.mono {K : PySem.W.Frag} {F F' : Hp} {a : Addr} {xs : List V} (h : LstAt K F a xs) (s : Same F F') : LstAt K F' a xs :=
  ⟨h.1, h.2.imp (fun e => s _ _ e) (Or.imp (fun ⟨o, e⟩ => ⟨o, s _ _ e⟩) id)⟩
/-! dicts: the object itself is known, its entries are told -/
def keyH : D → Int
  | .int i => hashInt i
  | .tuple ds => reduceHash (Builtin.Tuple.tupleHashOf (keyHs ds))
  | _ => 0
where keyHs : List D → List Int
  | [] => []
  | d :: ds => keyH d :: keyHs ds
inductive Entr : List D → List V → List V → List DictEntry → Prop
  | nil : Entr [] [] [] []
  | cons {d : D} {k v : V} {e : DictEntry} {ds : List D} {ks vs : List V} {es : List DictEntry} : e.hash = keyH d → RelV k e.key → RelV v e.val → Entr ds ks vs es → Entr (d :: ds) (k :: ks) (v :: vs) (e :: es)
def objIs (a : Addr) (o : Obj) : Heap → Prop := fun h => h.get? a = some o
def homK (ds : List D) : Prop := (∀ d ∈ ds, keyN 8 d = true ∧ isTup d = false) ∨ (∀ d ∈ ds, keyN 8 d = true ∧ isTup d = true)
structure DctO (o : Obj) (ds : List D) (ks vs : List V) : Prop where
  ex : o.ExactDict
  da : ∃ es ep, o.data = .dict es ep ∧ Entr ds ks vs es.toList
  nd : ds.Nodup
  hm : homK ds
  sz : ds.length ≤ sizeLine
def DctAt (F : Hp) (a : Addr) (ds : List D) (ks vs : List V) : Prop := (a == sysModules) = false ∧ ∃ o, F a = some (.ext (objIs a o)) ∧ DctO o ds ks vs
theorem DctAt.mono {F F' : Hp} {a : Addr} {ds : List D} {ks vs : List V} (h : DctAt F a ds ks vs) (s : Same F F') : DctAt F' a ds ks vs :=
  ⟨h.1, let ⟨o, e, r⟩ := h.2; ⟨o, s _ _ e, r⟩⟩
theorem DctAt.at {F F' : Hp} {a : Addr} {ds : List D} {ks vs : List V} (h : DctAt F a ds ks vs) (s : ∀ o, F a = some o → F' a = some o) : DctAt F' a ds ks vs :=
  ⟨h.1, let ⟨o, e, r⟩ := h.2; ⟨o, s _ e, r⟩⟩
mutual
inductive Rep (K : PySem.W.Frag) (F : Hp) : D → V → Prop
  | non : Rep K F .none .non
  | bl (b : Bool) : Rep K F (.bool b) (.bl b)
  | int (i : Int) : Rep K F (.int i) (.int i)
  | str (x : Str) : Rep K F (.str x) (.str x)
  | lst {a : Addr} {xs : List V} {ds : List D} : LstAt K F a xs → Reps K F ds xs → Rep K F (.list ds) (.ref a)
  | tup {a : Addr} {xs : List V} {ds : List D} : TupAt K F a xs → Reps K F ds xs → Rep K F (.tuple ds) (.ref a)
  | dct {a : Addr} {ks vs : List V} {kvs : List (D × D)} : DctAt F a (kvs.map (·.1)) ks vs → Reps K F (kvs.map (·.1)) ks → Reps K F (kvs.map (·.2)) vs → Rep K F (.dict kvs) (.ref a)
inductive Reps (K : PySem.W.Frag) (F : Hp) : List D → List V → Prop
  | nil : Reps K F [] []
  | cons {d : D} {v : V} {ds : List D} {vs : List V} : Rep K F d v → Reps K F ds vs → Reps K F (d :: ds) (v :: vs)
end
section
variable {K : PySem.W.Frag} {F F' H : Hp}
mutual
theorem Rep.mono (s : Same F F') : ∀ {d : D} {v : V}, Rep K F d v → Rep K F' d v
  | _, _, .non => .non
  | _, _, .bl b => .bl b
  | _, _, .int i => .int i
  | _, _, .str x => .str x
  | _, _, .lst h r => .lst (h.mono s) (Reps.mono s r)
  | _, _, .tup h r => .tup (h.mono s) (Reps.mono s r)
  | _, _, .dct h r q => .dct (h.mono s) (Reps.mono s r) (Reps.mono s q)
theorem Reps.mono (s : Same F F') : ∀ {ds : List D} {vs : List V}, Reps K F ds vs → Reps K F' ds vs
  | _, _, .nil => .nil
  | _, _, .cons h r => .cons (Rep.mono s h) (Reps.mono s r)
end
mutual
theorem Rep.dp : ∀ {d : D} {v : V}, d.plain = true → Rep K F d v → Dp K F v d
  | _, _, _, .non => .non
  | _, _, _, .bl b => .bl b
  | _, _, _, .int i => .int i
  | _, _, _, .str x => .str x
  | _, _, p, .lst h r => .lst h.sq (Reps.dp (by simpa [PyData.plain] using p) r)
  | _, _, p, .tup h r => .tup h.sq (Reps.dp (by simpa [PyData.plain] using p) r)
  | _, _, p, .dct .. => by simp [PyData.plain] at p
theorem Reps.dp : ∀ {ds : List D} {vs : List V}, PyData.plainAll ds = true → Reps K F ds vs → DpAll K F vs ds
  | _, _, _, .nil => .nil
  | _, _, p, .cons h r => .cons (Rep.dp (by simp only [PyData.plainAll, Bool.and_eq_true] at p; exact p.1) h) (Reps.dp (by simp only [PyData.plainAll, Bool.and_eq_true] at p; exact p.2) r)
end
theorem Reps.length : ∀ {ds : List D} {vs : List V}, Reps K F ds vs → vs.length = ds.length
  | _, _, .nil => rfl
  | _, _, .cons _ r => by rw [List.length_cons, List.length_cons, Reps.length r]
theorem Reps.get : ∀ {ds : List D} {vs : List V} {i : Nat} {d : D}, Reps K F ds vs → ds[i]? = some d → ∃ v, vs[i]? = some v ∧ Rep K F d v
  | _, _, _, _, .nil, e => by simp at e
  | _, _, 0, _, .cons h _, e => by simp at e; subst e; exact ⟨_, rfl, h⟩
  | _, _, i + 1, d, .cons _ r, e => by
    obtain ⟨v, h1, h2⟩ := Reps.get (i := i) (d := d) r (by simpa using e)
    exact ⟨v, by simpa using h1, h2⟩
theorem Reps.getV : ∀ {ds : List D} {vs : List V} {i : Nat} {v : V}, Reps K F ds vs → vs[i]? = some v → ∃ d, ds[i]? = some d ∧ Rep K F d v
  | _, _, _, _, .nil, e => by simp at e
  | _, _, 0, _, .cons h _, e => by simp at e; subst e; exact ⟨_, rfl, h⟩
  | _, _, i + 1, d, .cons _ r, e => by
    obtain ⟨v, h1, h2⟩ := Reps.getV (i := i) (v := d) r (by simpa using e)
    exact ⟨v, by simpa using h1, h2⟩
theorem Reps.append : ∀ {ds es : List D} {vs ws : List V}, Reps K F ds vs → Reps K F es ws → Reps K F (ds ++ es) (vs ++ ws)
  | _, _, _, _, .nil, s => s
  | _, _, _, _, .cons h r, s => .cons h (Reps.append r s)
theorem Reps.take : ∀ {ds : List D} {vs : List V} (n : Nat), Reps K F ds vs → Reps K F (ds.take n) (vs.take n)
  | _, _, 0, _ => .nil
  | _, _, _ + 1, .nil => .nil
  | _, _, n + 1, .cons h r => .cons h (Reps.take n r)
theorem Reps.drop : ∀ {ds : List D} {vs : List V} (n : Nat), Reps K F ds vs → Reps K F (ds.drop n) (vs.drop n)
  | _, _, 0, r => r
  | _, _, _ + 1, .nil => .nil
  | _, _, n + 1, .cons _ r => Reps.drop n r
theorem Reps.snoc {ds : List D} {vs : List V} {d : D} {v : V} (r : Reps K F ds vs) (h : Rep K F d v) : Reps K F (ds ++ [d]) (vs ++ [v]) := r.append (.cons h .nil)
theorem Reps.reverse : ∀ {ds : List D} {vs : List V}, Reps K F ds vs → Reps K F ds.reverse vs.reverse
  | _, _, .nil => .nil
  | _, _, .cons h r => by rw [List.reverse_cons, List.reverse_cons]; exact (Reps.reverse r).snoc h
theorem Reps.set {d : D} {v : V} (h : Rep K F d v) : ∀ {ds : List D} {vs : List V} (i : Nat), Reps K F ds vs → Reps K F (ds.set i d) (vs.set i v)
  | _, _, _, .nil => .nil
  | _, _, 0, .cons _ r => .cons h r
  | _, _, i + 1, .cons q r => .cons q (Reps.set h i r)
theorem Reps.eraseIdx : ∀ {ds : List D} {vs : List V} (i : Nat), Reps K F ds vs → Reps K F (ds.eraseIdx i) (vs.eraseIdx i)
  | _, _, _, .nil => .nil
  | _, _, 0, .cons _ r => r
  | _, _, i + 1, .cons q r => .cons q (Reps.eraseIdx i r)
theorem Reps.dropLast {ds : List D} {vs : List V} (r : Reps K F ds vs) : Reps K F ds.dropLast vs.dropLast := by
  rw [List.dropLast_eq_take, List.dropLast_eq_take, r.length]
  exact r.take _
theorem Reps.rep {ds : List D} {vs : List V} (r : Reps K F ds vs) : ∀ k : Nat, Reps K F (List.replicate k ds).flatten (List.replicate k vs).flatten
  | 0 => .nil
  | k + 1 => by
    rw [List.replicate_succ, List.replicate_succ, List.flatten_cons, List.flatten_cons]
    exact r.append (Reps.rep r k)
theorem Reps.ints : ∀ {ns : List Int}, Reps K F (ns.map PyData.int) (ns.map V.int)
  | [] => .nil
  | n :: ns => .cons (.int n) Reps.ints
theorem ints?_eq : ∀ {ds : List D} {ns : List Int}, ints? ds = some ns → ds = ns.map PyData.int
  | [], ns, h => by
    have e : ns = [] := by simpa [ints?] using h.symm
    rw [e]; rfl
  | .int i :: ds, ns, h => by
    cases q : ints? ds with
    | none => simp [ints?, q] at h
    | some ms =>
      have e : ns = i :: ms := by simpa [ints?, q] using h.symm
      rw [e, List.map_cons, ints?_eq q]
  | .none :: _, _, h => by simp [ints?] at h
  | .bool _ :: _, _, h => by simp [ints?] at h
  | .str _ :: _, _, h => by simp [ints?] at h
  | .list _ :: _, _, h => by simp [ints?] at h
  | .tuple _ :: _, _, h => by simp [ints?] at h
  | .dict _ :: _, _, h => by simp [ints?] at h
theorem ints?_map : ∀ (ns : List Int), ints? (ns.map PyData.int) = some ns
  | [] => rfl
  | n :: ns => by simp [ints?, ints?_map ns]
theorem bools?_eq : ∀ {ds : List D} {ns : List Bool}, bools? ds = some ns → ds = ns.map PyData.bool
  | [], ns, h => by
    have e : ns = [] := by simpa [bools?] using h.symm
    rw [e]; rfl
  | .bool i :: ds, ns, h => by
    cases q : bools? ds with
    | none => simp [bools?, q] at h
    | some ms =>
      have e : ns = i :: ms := by simpa [bools?, q] using h.symm
      rw [e, List.map_cons, bools?_eq q]
  | .none :: _, _, h => by simp [bools?] at h
  | .int _ :: _, _, h => by simp [bools?] at h
  | .str _ :: _, _, h => by simp [bools?] at h
  | .list _ :: _, _, h => by simp [bools?] at h
  | .tuple _ :: _, _, h => by simp [bools?] at h
  | .dict _ :: _, _, h => by simp [bools?] at h
theorem bools?_map : ∀ (ns : List Bool), bools? (ns.map PyData.bool) = some ns
  | [] => rfl
  | n :: ns => by simp [bools?, bools?_map ns]
theorem Reps.ofInts : ∀ {ns : List Int} {vs : List V}, Reps K F (ns.map PyData.int) vs → vs = ns.map V.int
  | [], _, h => by cases h; rfl
  | n :: ns, _, h => by
    cases h with
    | cons h r =>
      cases h
      rw [List.map_cons, Reps.ofInts r]
theorem Reps.ofBools : ∀ {ns : List Bool} {vs : List V}, Reps K F (ns.map PyData.bool) vs → vs = ns.map V.bl
  | [], _, h => by cases h; rfl
  | n :: ns, _, h => by
    cases h with
    | cons h r =>
      cases h
      rw [List.map_cons, Reps.ofBools r]

/-! ## a place's own object -/
def Own (K : PySem.W.Frag) (F H : Hp) (d : D) (a : Addr) : Prop :=
  match d with
  | .list ds => ∃ vs, H a = some (.lst vs) ∧ vs.length ≤ sizeLine ∧ Reps K F ds vs
  | .dict kvs => ∃ ks vs, DctAt H a (kvs.map (·.1)) ks vs ∧ Reps K F (kvs.map (·.1)) ks ∧ Reps K F (kvs.map (·.2)) vs
  | _ => False
theorem Own.mono (s : Same F F') {d : D} {a : Addr} (h : Own K F H d a) : Own K F' H d a := by
  cases d with
  | list ds => obtain ⟨vs, e, z, r⟩ := h; exact ⟨vs, e, z, r.mono s⟩
  | dict kvs => obtain ⟨ks, vs, e, r, q⟩ := h; exact ⟨ks, vs, e, r.mono s, q.mono s⟩
  | _ => exact h.elim
theorem Own.at {H' : Hp} {d : D} {a : Addr} (h : Own K F H d a) (e : ∀ o, H a = some o → H' a = some o) : Own K F H' d a := by
  cases d with
  | list ds => obtain ⟨vs, e1, z, r⟩ := h; exact ⟨vs, e _ e1, z, r⟩
  | dict kvs => obtain ⟨ks, vs, e1, r, q⟩ := h; exact ⟨ks, vs, e1.at e, r, q⟩
  | _ => exact h.elim
theorem Own.some {d : D} {a : Addr} (h : Own K F H d a) : ∃ o, H a = Option.some o := by
  cases d with
  | list ds => obtain ⟨vs, e1, _⟩ := h; exact ⟨_, e1⟩
  | dict kvs => obtain ⟨ks, vs, ⟨_, o, e1, _⟩, _⟩ := h; exact ⟨_, e1⟩
  | _ => exact h.elim
/-- a value as it may be read now -/
inductive RepT (K : PySem.W.Frag) (F H : Hp) : D → V → Prop
  | rep {d : D} {v : V} : Rep K F d v → RepT K F H d v
  | own {d : D} {a : Addr} : Own K F H d a → RepT K F H d (.ref a)

/-! ## the state -/
/-- where a def's run began: what never changed then, the heap, the object that it may change -/
structure Ent where
  F : Hp
  H : Hp
  ex : Option Addr
/-- where a place's own object came from -/
def zOk (Z : Ent) (x : Slot) (a : Addr) : Prop :=
  match x with
  | .own _ => Z.H a = none
  | .inp _ => Z.ex = some a
  | _ => False
structure R (K : PySem.W.Frag) (Z : Ent) (F : Hp) (env : Env) (σ : L2.St) (H : Hp) : Prop where
  fh : Same F H
  f0 : Same Z.F F
  nw : ∀ b o, Z.H b = some o → F b = Z.F b
  g : ∀ b o, Z.H b = some o → Z.ex ≠ some b → H b = some o
  gx : ∀ b o, Z.H b = some o → ∃ o', H b = some o'
  xe : ∀ a, Z.ex = some a → ∃ o, Z.H a = some o
  len : env.length = σ.length
  vl : ∀ (i : Nat) (d : D), env[i]? = some (.val d) → ∃ v, σ[i]? = some (some v) ∧ Rep K F d v
  ow : ∀ (i : Nat) (x : Slot) (d : D), env[i]? = some x → ownD x = some d → ∃ a, σ[i]? = some (some (.ref a)) ∧ Own K F H d a ∧ F a = none ∧ zOk Z x a
  ap : ∀ (i j : Nat) (x y : Slot) (d e : D) (a : Addr), env[i]? = some x → env[j]? = some y → ownD x = some d → ownD y = some e → σ[i]? = some (some (.ref a)) → σ[j]? = some (some (.ref a)) → i = j
/-- a new object that no place holds yet -/
structure Fresh (K : PySem.W.Frag) (Z : Ent) (F : Hp) (env : Env) (σ : L2.St) (H : Hp) (d : D) (a : Addr) : Prop where
  ow : Own K F H d a
  nf : F a = none
  n0 : Z.H a = none
  nx : Z.ex ≠ some a
  ap : ∀ (i : Nat) (x : Slot) (d : D), env[i]? = some x → ownD x = some d → σ[i]? ≠ some (some (.ref a))
end
section
variable {K : PySem.W.Frag} {Z : Ent} {F F' H H' : Hp} {env : Env} {σ : L2.St}
theorem same_upd {H : Hp} {p : Addr} {o : HO} (h : H p = none) : Same H (upd H p o) := fun b x e => by
  rw [upd_ne (ne_of_none e h)]
  exact e
theorem R.z0 (r : R K Z F env σ H) {p : Addr} (h : H p = none) : Z.H p = none := by
  cases q : Z.H p with
  | none => rfl
  | some o =>
    obtain ⟨o', e⟩ := r.gx p o q
    rw [h] at e; cases e
theorem R.f0n (r : R K Z F env σ H) {p : Addr} (h : H p = none) : F p = none := r.fh.free h
theorem R.xn (r : R K Z F env σ H) {p : Addr} (h : H p = none) : Z.ex ≠ some p := fun e => by
  obtain ⟨o, q⟩ := r.xe p e
  rw [r.z0 h] at q; cases q
/-- a new object that never changes -/
theorem R.new (r : R K Z F env σ H) {p : Addr} {o : HO} (h : H p = none) : R K Z (upd F p o) env σ (upd H p o) := by
  have hf := r.f0n h
  have sf : Same F (upd F p o) := same_upd hf
  refine ⟨fun b x e => ?_, r.f0.trans sf, fun b x e => ?_, fun b x e ne => ?_, fun b x e => ?_, r.xe, r.len, fun i d e => ?_, fun i y d e e' => ?_, r.ap⟩
  · by_cases hb : b = p
    · subst hb; rw [upd_same] at e ⊢; exact e
    · rw [upd_ne hb] at e ⊢; exact r.fh b x e
  · have hb : b ≠ p := fun z => by subst z; rw [r.z0 h] at e; cases e
    rw [upd_ne hb]; exact r.nw b x e
  · have hb : b ≠ p := fun z => by subst z; rw [r.z0 h] at e; cases e
    rw [upd_ne hb]; exact r.g b x e ne
  · have hb : b ≠ p := fun z => by subst z; rw [r.z0 h] at e; cases e
    rw [upd_ne hb]; exact r.gx b x e
  · obtain ⟨v, e1, q⟩ := r.vl i d e; exact ⟨v, e1, q.mono sf⟩
  · obtain ⟨a, e1, q, n, z⟩ := r.ow i y d e e'
    obtain ⟨o', eo⟩ := q.some
    have ha : a ≠ p := fun z => by subst z; rw [h] at eo; cases eo
    exact ⟨a, e1, (q.mono sf).at fun o e => by rw [upd_ne ha]; exact e, by rw [upd_ne ha]; exact n, z⟩
theorem R.sameNew (r : R K Z F env σ H) {p : Addr} {o : HO} (h : H p = none) : Same F (upd F p o) := same_upd (r.f0n h)
/-- a new object that may change -/
theorem R.newOwnD (r : R K Z F env σ H) {p : Addr} {d : D} {ob : HO} (h : H p = none) (ow : Own K F (upd H p ob) d p) :
    R K Z F env σ (upd H p ob) ∧ Fresh K Z F env σ (upd H p ob) d p := by
  have hf := r.f0n h
  refine ⟨⟨fun b x e => ?_, r.f0, r.nw, fun b x e ne => ?_, fun b x e => ?_, r.xe, r.len, r.vl, fun i y d e e' => ?_, r.ap⟩, ⟨ow, hf, r.z0 h, r.xn h, fun i y d e e' e2 => ?_⟩⟩
  · rw [upd_ne (ne_of_none e hf)]; exact r.fh b x e
  · have hb : b ≠ p := fun z => by subst z; rw [r.z0 h] at e; cases e
    rw [upd_ne hb]; exact r.g b x e ne
  · have hb : b ≠ p := fun z => by subst z; rw [r.z0 h] at e; cases e
    rw [upd_ne hb]; exact r.gx b x e
  · obtain ⟨a, e1, q, n, z⟩ := r.ow i y d e e'
    obtain ⟨o', eo⟩ := q.some
    have ha : a ≠ p := fun z => by subst z; rw [h] at eo; cases eo
    exact ⟨a, e1, q.at fun o e => by rw [upd_ne ha]; exact e, n, z⟩
  · obtain ⟨a, e1, q, n, z⟩ := r.ow i y d e e'
    rw [e1] at e2; cases e2
    obtain ⟨o', eo⟩ := q.some
    rw [h] at eo; cases eo
/-- a new list that may change -/
theorem R.newOwn (r : R K Z F env σ H) {p : Addr} {ds : List D} {vs : List V} (h : H p = none) (z : vs.length ≤ sizeLine) (q : Reps K F ds vs) :
    R K Z F env σ (upd H p (.lst vs)) ∧ Fresh K Z F env σ (upd H p (.lst vs)) (.list ds) p := r.newOwnD h ⟨vs, upd_same, z, q⟩
/-- what is the heap's object at a, from now on never changed -/
def frzAt (F H : Hp) (a : Addr) : Hp := fun b => if b = a then H a else F b
theorem frzAt_same {F H : Hp} {a : Addr} (n : F a = none) : Same F (frzAt F H a) := fun b o e => by
  unfold frzAt; rw [if_neg (ne_of_none e n)]; exact e
theorem Own.rep {d : D} {a : Addr} (h : Own K F H d a) (n : F a = none) : Rep K (frzAt F H a) d (.ref a) := by
  cases d with
  | list ds =>
    obtain ⟨vs, e, z, r⟩ := h
    exact .lst ⟨z, .inl (by unfold frzAt; rw [if_pos rfl]; exact e)⟩ (r.mono (frzAt_same n))
  | dict kvs =>
    obtain ⟨ks, vs, ⟨hd, o, e, w⟩, r, q⟩ := h
    exact .dct ⟨hd, o, by unfold frzAt; rw [if_pos rfl]; exact e, w⟩ (r.mono (frzAt_same n)) (q.mono (frzAt_same n))
  | _ => exact h.elim
theorem Own.repU {d : D} {a : Addr} {ob : HO} (h : Own K F (upd H a ob) d a) (n : F a = none) : Rep K (upd F a ob) d (.ref a) := by
  have e : frzAt F (upd H a ob) a = upd F a ob := by
    funext b
    unfold frzAt
    by_cases hb : b = a
    · rw [if_pos hb, hb, upd_same]
      unfold upd; rw [if_pos rfl]
    · rw [if_neg hb, upd_ne hb]
  rw [← e]
  exact h.rep n
/-- an object that no place holds is from now on never changed -/
theorem R.frz (r : R K Z F env σ H) {d : D} {a : Addr} (ow : Own K F H d a) (nf : F a = none) (n0 : Z.H a = none) (ap : ∀ (i : Nat) (x : Slot) (d : D), env[i]? = some x → ownD x = some d → σ[i]? ≠ some (some (.ref a))) :
    R K Z (frzAt F H a) env σ H ∧ Same F (frzAt F H a) ∧ Rep K (frzAt F H a) d (.ref a) := by
  have sf := frzAt_same (H := H) nf
  refine ⟨⟨fun b x e => ?_, r.f0.trans sf, fun b x e => ?_, r.g, r.gx, r.xe, r.len, fun i d e => ?_, fun i y d e e' => ?_, r.ap⟩, sf, ow.rep nf⟩
  · unfold frzAt at e
    by_cases hb : b = a
    · rw [if_pos hb] at e; rw [hb]; exact e
    · rw [if_neg hb] at e; exact r.fh b x e
  · have hb : b ≠ a := fun z => by rw [z, n0] at e; cases e
    unfold frzAt; rw [if_neg hb]; exact r.nw b x e
  · obtain ⟨v, e1, q⟩ := r.vl i d e; exact ⟨v, e1, q.mono sf⟩
  · obtain ⟨b, e1, q, n, z⟩ := r.ow i y d e e'
    have hb : b ≠ a := fun z => by rw [z] at e1; exact ap i y d e e' e1
    exact ⟨b, e1, q.mono sf, by unfold frzAt; rw [if_neg hb]; exact n, z⟩
theorem R.freeze (r : R K Z F env σ H) {d : D} {a : Addr} (f : Fresh K Z F env σ H d a) : R K Z (frzAt F H a) env σ H ∧ Same F (frzAt F H a) ∧ Rep K (frzAt F H a) d (.ref a) := r.frz f.ow f.nf f.n0 f.ap
theorem slot_get {e : Env} {i : Nat} {x : Slot} (h : slot e i = x) (n : x ≠ .no) : e[i]? = some x := by
  unfold slot at h
  rw [List.getD_eq_getElem?_getD] at h
  cases q : e[i]? with
  | none => rw [q] at h; exact absurd h.symm n
  | some y => rw [q] at h; exact congrArg _ h
theorem ownD_no {x : Slot} {d : D} (h : ownD x = some d) : x ≠ .no := fun z => by subst z; cases h
theorem slot_ownD {e : Env} {i : Nat} {d : D} (h : ownD (slot e i) = some d) : e[i]? = some (slot e i) := slot_get rfl (ownD_no h)
theorem lt_of_slot {e : Env} {i : Nat} {x : Slot} (h : e[i]? = some x) : i < e.length := (List.getElem?_eq_some_iff.mp h).1
theorem set_at {e : Env} {i j : Nat} {x y : Slot} (h : (e.set i x)[j]? = some y) : (j = i ∧ y = x) ∨ (j ≠ i ∧ e[j]? = some y) := by
  by_cases hj : j = i
  · subst hj
    have hl : j < e.length := by
      have := (List.getElem?_eq_some_iff.mp h).1
      rwa [List.length_set] at this
    rw [List.getElem?_set_self hl] at h
    exact .inl ⟨rfl, (Option.some.inj h).symm⟩
  · rw [List.getElem?_set_ne (Ne.symm hj)] at h
    exact .inr ⟨hj, h⟩
/-- a place is forgotten -/
theorem R.drop (r : R K Z F env σ H) (i : Nat) : R K Z F (env.set i .no) σ H := by
  refine ⟨r.fh, r.f0, r.nw, r.g, r.gx, r.xe, by rw [List.length_set]; exact r.len, fun j d e => ?_, fun j x d e e' => ?_, fun j l x y d1 d2 b h1 h2 h1' h2' h3 h4 => ?_⟩
  · rcases set_at e with ⟨_, z⟩ | ⟨_, e⟩
    · cases z
    · exact r.vl j d e
  · rcases set_at e with ⟨_, z⟩ | ⟨_, e⟩
    · subst z; cases e'
    · exact r.ow j x d e e'
  · rcases set_at h1 with ⟨_, z⟩ | ⟨_, h1⟩
    · subst z; cases h1'
    · rcases set_at h2 with ⟨_, z⟩ | ⟨_, h2⟩
      · subst z; cases h2'
      · exact r.ap j l x y d1 d2 b h1 h2 h1' h2' h3 h4
/-- .. with its slot -/
theorem R.dropS (r : R K Z F env σ H) (i : Nat) : R K Z F (env.set i .no) (σ.set i none) H := by
  refine ⟨r.fh, r.f0, r.nw, r.g, r.gx, r.xe, by rw [List.length_set, List.length_set]; exact r.len, fun j d e => ?_, fun j x d e e' => ?_, fun j l x y d1 d2 b h1 h2 h1' h2' h3 h4 => ?_⟩
  · rcases set_at e with ⟨_, z⟩ | ⟨n, e⟩
    · cases z
    · rw [List.getElem?_set_ne (Ne.symm n)]; exact r.vl j d e
  · rcases set_at e with ⟨_, z⟩ | ⟨n, e⟩
    · subst z; cases e'
    · rw [List.getElem?_set_ne (Ne.symm n)]; exact r.ow j x d e e'
  · rcases set_at h1 with ⟨_, z⟩ | ⟨n, h1⟩
    · subst z; cases h1'
    · rcases set_at h2 with ⟨_, z⟩ | ⟨m, h2⟩
      · subst z; cases h2'
      · rw [List.getElem?_set_ne (Ne.symm n)] at h3
        rw [List.getElem?_set_ne (Ne.symm m)] at h4
        exact r.ap j l x y d1 d2 b h1 h2 h1' h2' h3 h4
/-- a value goes into a place -/
theorem R.setV (r : R K Z F env σ H) {i : Nat} {d : D} {v : V} (hi : i < env.length) (q : Rep K F d v) : R K Z F (env.set i (.val d)) (σ.set i (some v)) H := by
  have hs : i < σ.length := r.len ▸ hi
  refine ⟨r.fh, r.f0, r.nw, r.g, r.gx, r.xe, by rw [List.length_set, List.length_set]; exact r.len, fun j d' e' => ?_, fun j x d' e e' => ?_, fun j l x y d1 d2 b h1 h2 h1' h2' h3 h4 => ?_⟩
  · rcases set_at e' with ⟨z1, z⟩ | ⟨n, e⟩
    · subst z1; cases z; exact ⟨v, List.getElem?_set_self hs, q⟩
    · rw [List.getElem?_set_ne (Ne.symm n)]; exact r.vl j d' e
  · rcases set_at e with ⟨_, z⟩ | ⟨n, e⟩
    · subst z; cases e'
    · rw [List.getElem?_set_ne (Ne.symm n)]; exact r.ow j x d' e e'
  · rcases set_at h1 with ⟨_, z⟩ | ⟨n, h1⟩
    · subst z; cases h1'
    · rcases set_at h2 with ⟨_, z⟩ | ⟨m, h2⟩
      · subst z; cases h2'
      · rw [List.getElem?_set_ne (Ne.symm n)] at h3
        rw [List.getElem?_set_ne (Ne.symm m)] at h4
        exact r.ap j l x y d1 d2 b h1 h2 h1' h2' h3 h4
/-- a new object goes into a place as its own -/
theorem R.setO (r : R K Z F env σ H) {i : Nat} {d : D} {a : Addr} (hi : i < env.length) (f : Fresh K Z F env σ H d a) : R K Z F (env.set i (.own d)) (σ.set i (some (.ref a))) H := by
  have hs : i < σ.length := r.len ▸ hi
  refine ⟨r.fh, r.f0, r.nw, r.g, r.gx, r.xe, by rw [List.length_set, List.length_set]; exact r.len, fun j d' e' => ?_, fun j x d' e e' => ?_, fun j l x y d1 d2 b h1 h2 h1' h2' h3 h4 => ?_⟩
  · rcases set_at e' with ⟨z1, z⟩ | ⟨n, e⟩
    · cases z
    · rw [List.getElem?_set_ne (Ne.symm n)]; exact r.vl j d' e
  · rcases set_at e with ⟨z1, z⟩ | ⟨n, e⟩
    · subst z1 z
      cases e'
      exact ⟨a, List.getElem?_set_self hs, f.ow, f.nf, f.n0⟩
    · rw [List.getElem?_set_ne (Ne.symm n)]; exact r.ow j x d' e e'
  · rcases set_at h1 with ⟨z1, z⟩ | ⟨n, g1⟩
    · subst z1 z
      rw [List.getElem?_set_self hs] at h3
      cases h3
      rcases set_at h2 with ⟨z2, z⟩ | ⟨m, h2⟩
      · exact z2.symm
      · rw [List.getElem?_set_ne (Ne.symm m)] at h4
        exact absurd h4 (f.ap l y d2 h2 h2')
    · rw [List.getElem?_set_ne (Ne.symm n)] at h3
      rcases set_at h2 with ⟨z2, z⟩ | ⟨m, g2⟩
      · rw [z2, List.getElem?_set_self hs] at h4
        cases h4
        exact absurd h3 (f.ap j x d1 g1 h1')
      · rw [List.getElem?_set_ne (Ne.symm m)] at h4
        exact r.ap j l x y d1 d2 b g1 g2 h1' h2' h3 h4
/-- a place's own object read as a whole: from now on it never changes -/
theorem R.take (r : R K Z F env σ H) {i : Nat} {d : D} (h : slot env i = .own d) :
    ∃ v F', σ[i]? = some (some v) ∧ R K Z F' (env.set i (.val d)) σ H ∧ Same F F' ∧ Rep K F' d v := by
  have e := slot_get h fun z => nomatch z
  obtain ⟨a, e1, q, n, z⟩ := r.ow i _ d e rfl
  have hi := lt_of_slot e
  have r1 := r.drop i
  obtain ⟨r2, sf, rp⟩ := r1.frz q n z fun j x d' e2 e3 e4 => by
    rcases set_at e2 with ⟨_, z⟩ | ⟨m, e2⟩
    · subst z; cases e3
    · exact m (r.ap j i x _ d' d a e2 e e3 rfl e4 e1)
  have r3 := r2.setV (i := i) (by rw [List.length_set]; exact hi) rp
  have e5 : (env.set i Slot.no).set i (.val d) = env.set i (.val d) := by rw [List.set_set]
  have e6 : σ.set i (some (.ref a)) = σ := by
    have hs : i < σ.length := r.len ▸ hi
    refine List.ext_getElem? fun j => ?_
    by_cases hj : j = i
    · subst hj; rw [List.getElem?_set_self hs, e1]
    · rw [List.getElem?_set_ne (Ne.symm hj)]
  rw [e5, e6] at r3
  exact ⟨.ref a, _, e1, r3, sf, rp⟩
/-- a place's own object is given away -/
theorem R.give (r : R K Z F env σ H) {i : Nat} {d : D} (h : slot env i = .own d) :
    ∃ a, σ[i]? = some (some (.ref a)) ∧ R K Z F (env.set i .no) σ H ∧ Fresh K Z F (env.set i .no) σ H d a := by
  have e := slot_get h fun z => nomatch z
  obtain ⟨a, e1, q, n, z⟩ := r.ow i _ d e rfl
  refine ⟨a, e1, r.drop i, ⟨q, n, z, fun y => ?_, fun j x d' e2 e3 e4 => ?_⟩⟩
  · obtain ⟨o, w⟩ := r.xe a y
    rw [show Z.H a = none from z] at w; cases w
  · rcases set_at e2 with ⟨_, z⟩ | ⟨m, e2⟩
    · subst z; cases e3
    · exact m (r.ap j i x _ d' d a e2 e e3 rfl e4 e1)
theorem ownD_reOwn (x : Slot) (d : D) : ownD (reOwn x d) = some d := by cases x <;> rfl
theorem zOk_reOwn {x : Slot} {d d' : D} {a : Addr} (h : ownD x = some d) (z : zOk Z x a) : zOk Z (reOwn x d') a := by
  cases x with
  | own _ => exact z
  | inp _ => exact z
  | _ => cases h
/-- a place's own object is changed, and what else the code behind it may change -/
theorem R.mutG (r : R K Z F env σ H) {i : Nat} {d d' : D} {a : Addr} {H' F' : Hp} (h : ownD (slot env i) = some d) (ha : σ[i]? = some (some (.ref a))) (q : Own K F' H' d' a)
    (sf : Same F F') (fh : Same F' H') (hk : ∀ b o, H b = some o → b ≠ a → H' b = some o) (fn : ∀ b o, H b = some o → F' b = F b) :
    R K Z F' (env.set i (reOwn (slot env i) d')) σ H' := by
  have e := slot_ownD h
  have hi := lt_of_slot e
  obtain ⟨a', e1, q1, n, z⟩ := r.ow i _ d e h
  rw [ha] at e1
  cases e1
  have keepZ : ∀ b o, Z.H b = some o → Z.ex ≠ some b → b ≠ a := fun b o e ne y => by
    subst y
    cases hx : slot env i with
    | own _ =>
      rw [hx] at z
      have z : Z.H b = none := z
      rw [z] at e; cases e
    | inp _ =>
      rw [hx] at z
      exact ne z
    | _ => rw [hx] at h; cases h
  have hH : ∀ b o, Z.H b = some o → ∃ o', H b = some o' := r.gx
  have ha' : ∃ o, H' a = some o := q.some
  refine ⟨fh, r.f0.trans sf, fun b x e => ?_, fun b x e ne => hk b x (r.g b x e ne) (keepZ b x e ne), fun b x e => ?_, r.xe, by rw [List.length_set]; exact r.len, fun j d' e' => ?_, fun j x d' e2 e3 => ?_, fun j l x y d1 d2 b h1 h2 h1' h2' h3 h4 => ?_⟩
  · obtain ⟨o', eo⟩ := r.gx b x e
    rw [fn b o' eo]
    exact r.nw b x e
  · obtain ⟨o', eo⟩ := r.gx b x e
    by_cases hb : b = a
    · rw [hb]; exact ha'
    · exact ⟨o', hk b o' eo hb⟩
  · rcases set_at e' with ⟨_, z⟩ | ⟨_, e'⟩
    · exact absurd (congrArg ownD z) (by rw [ownD_reOwn]; intro y; cases y)
    · obtain ⟨v, e4, q4⟩ := r.vl j d' e'
      exact ⟨v, e4, q4.mono sf⟩
  · rcases set_at e2 with ⟨z1, z2⟩ | ⟨m, e2⟩
    · subst z1 z2
      rw [ownD_reOwn] at e3
      cases e3
      obtain ⟨oa, hoa⟩ := q1.some
      exact ⟨a, ha, q, by rw [fn a oa hoa]; exact n, zOk_reOwn h z⟩
    · obtain ⟨b, e4, q4, n4, z4⟩ := r.ow j x d' e2 e3
      have hb : b ≠ a := fun z => m (r.ap j i x _ d' d a e2 e e3 h (z ▸ e4) ha)
      obtain ⟨ob, hob⟩ := q4.some
      refine ⟨b, e4, (q4.mono sf).at fun o e => ?_, ?_, z4⟩
      · exact hk b o e hb
      · rw [fn b ob hob]; exact n4
  · have g : ∀ (j : Nat) (x : Slot) (d1 : D), (env.set i (reOwn (slot env i) d'))[j]? = some x → ownD x = some d1 → ∃ x' d2, env[j]? = some x' ∧ ownD x' = some d2 := fun j x d1 h1 h2 => by
      rcases set_at h1 with ⟨z1, z2⟩ | ⟨_, h1⟩
      · subst z1; exact ⟨_, d, e, h⟩
      · exact ⟨x, d1, h1, h2⟩
    obtain ⟨x', d3, h1, h1'⟩ := g j x d1 h1 h1'
    obtain ⟨y', d4, h2, h2'⟩ := g l y d2 h2 h2'
    exact r.ap j l x' y' d3 d4 b h1 h2 h1' h2' h3 h4
theorem R.mut (r : R K Z F env σ H) {i : Nat} {d d' : D} {a : Addr} {o : HO} (h : ownD (slot env i) = some d) (ha : σ[i]? = some (some (.ref a))) (q : Own K F (upd H a o) d' a) :
    R K Z F (env.set i (reOwn (slot env i) d')) σ (upd H a o) := by
  obtain ⟨a', e1, q1, n, z⟩ := r.ow i _ d (slot_ownD h) h
  rw [ha] at e1
  cases e1
  exact r.mutG h ha q (Same.refl F) (fun b x e => by rw [upd_ne (ne_of_none e n)]; exact r.fh b x e) (fun b x e ne => by rw [upd_ne ne]; exact e) fun _ _ _ => rfl
/-- behind a call that changes nothing of ours -/
theorem R.after (r : R K Z F env σ H) {H' F' : Hp} (sf : Same F F') (fh : Same F' H') (hk : Same H H') (fn : ∀ b o, H b = some o → F' b = F b) : R K Z F' env σ H' := by
  refine ⟨fh, r.f0.trans sf, fun b x e => ?_, fun b x e ne => hk b x (r.g b x e ne), fun b x e => ?_, r.xe, r.len, fun j d' e' => ?_, fun j x d' e2 e3 => ?_, r.ap⟩
  · obtain ⟨o', eo⟩ := r.gx b x e
    rw [fn b o' eo]
    exact r.nw b x e
  · obtain ⟨o', eo⟩ := r.gx b x e
    exact ⟨o', hk b o' eo⟩
  · obtain ⟨v, e4, q4⟩ := r.vl j d' e'
    exact ⟨v, e4, q4.mono sf⟩
  · obtain ⟨b, e4, q4, n4, z4⟩ := r.ow j x d' e2 e3
    obtain ⟨ob, hob⟩ := q4.some
    exact ⟨b, e4, (q4.mono sf).at fun o e => hk b o e, by rw [fn b ob hob]; exact n4, z4⟩
end
end BT
namespace BT
open PySem PySem.Spec PyProof.Rows L2
section
variable {K : PySem.W.Frag} {Z : Ent} {F F0 F' H H' : Hp} {env : Env} {σ : L2.St}
/-! ## what a step hands on -/
def isL : D → Bool
  | .list _ => true
  | .dict _ => true
  | _ => false
/-- a value handed on: fr: a list is new, no place holds it -/
def Val (K : PySem.W.Frag) (Z : Ent) (F : Hp) (env : Env) (σ : L2.St) (H : Hp) (fr : Bool) (d : D) (v : V) : Prop :=
  if (fr && isL d) = true then ∃ a, v = .ref a ∧ Fresh K Z F env σ H d a else Rep K F d v
theorem Val.ff {d : D} {v : V} : Val K Z F env σ H false d v = Rep K F d v := if_neg (by simp)
def OutV (K : PySem.W.Frag) (F H : Hp) (d : D) (Q : VK) : Prop :=
  (∀ v, isL d = false → Rep K F d v → Q v H) ∧ (∀ p ds vs, d = .list ds → H p = none → vs.length ≤ sizeLine → Reps K F ds vs → Q (.ref p) (upd H p (.lst vs))) ∧
    (∀ p o ds vs, d = .tuple ds → H p = none → vs.length ≤ sizeLine → o.dict = none → o.cls = .type "tuple" → Reps K F ds vs → Q (.ref p) (upd H p (.frz o (.tup vs)))) ∧
    (∀ p ob, isL d = true → H p = none → Own K F (upd H p ob) d p → Q (.ref p) (upd H p ob))
def kP (K : PySem.W.Frag) (fr : Bool) (Q : VK) (Z : Ent) (F : Hp) (σ : L2.St) : D → Env → Prop := fun d env => ∀ F' H' v, Same F F' → R K Z F' env σ H' → Val K Z F' env σ H' fr d v → Q v H'
theorem out_of {fr : Bool} {Q : VK} {d : D} (r : R K Z F env σ H) (s : Same F0 F) (h : kP K fr Q Z F0 σ d env) : OutV K F H d Q := by
  refine ⟨fun v n q => ?_, fun p ds vs e hp z q => ?_, fun p o ds vs e hp z hd hcl q => ?_, fun p ob il hp ow => ?_⟩
  · refine h F H v s r ?_
    unfold Val
    rw [n, Bool.and_false, if_neg Bool.false_ne_true]
    exact q
  · subst e
    cases fr with
    | true =>
      obtain ⟨r1, f⟩ := r.newOwn hp z q
      refine h F _ (.ref p) s r1 ?_
      unfold Val
      rw [if_pos (show (true && isL (PyData.list ds)) = true from rfl)]
      exact ⟨p, rfl, f⟩
    | false =>
      refine h _ _ (.ref p) (s.trans (r.sameNew hp)) (r.new (o := .lst vs) hp) ?_
      rw [Val.ff]
      exact .lst ⟨z, .inl upd_same⟩ (q.mono (r.sameNew hp))
  · subst e
    refine h _ _ (.ref p) (s.trans (r.sameNew hp)) (r.new (o := .frz o (.tup vs)) hp) ?_
    unfold Val
    rw [show isL (PyData.tuple ds) = false from rfl, Bool.and_false, if_neg Bool.false_ne_true]
    exact .tup ⟨z, .inl ⟨o, upd_same, hd, hcl⟩⟩ (q.mono (r.sameNew hp))
  · cases fr with
    | true =>
      obtain ⟨r1, f⟩ := r.newOwnD hp ow
      refine h F _ (.ref p) s r1 ?_
      unfold Val
      rw [il, if_pos (by rfl)]
      exact ⟨p, rfl, f⟩
    | false =>
      refine h _ _ (.ref p) (s.trans (r.sameNew hp)) (r.new (o := ob) hp) ?_
      rw [Val.ff]
      exact ow.repU (r.f0n hp)
/-! ## reading now -/
theorem RepT.dp (s : Same F H) {d : D} {v : V} (p : d.plain = true) (h : RepT K F H d v) : Dp K H v d := by
  cases h with
  | rep h => exact (h.mono s).dp p
  | own h =>
    cases d with
    | list ds => obtain ⟨vs, e, z, r⟩ := h; exact .lst (.inl (.inl e)) ((r.mono s).dp (by simpa [PyData.plain] using p))
    | dict kvs => simp [PyData.plain] at p
    | _ => exact h.elim
theorem RepT.dict (s : Same F H) {kvs : List (D × D)} {v : V} (h : RepT K F H (.dict kvs) v) : ∃ a ks vs, v = .ref a ∧ DctAt H a (kvs.map (·.1)) ks vs ∧ Reps K F (kvs.map (·.1)) ks ∧ Reps K F (kvs.map (·.2)) vs := by
  cases h with
  | rep h => cases h with | dct h r q => exact ⟨_, _, _, rfl, h.mono s, r, q⟩
  | own h => obtain ⟨ks, vs, e, r, q⟩ := h; exact ⟨_, _, _, rfl, e, r, q⟩
theorem RepT.list (s : Same F H) {ds : List D} {v : V} (h : RepT K F H (.list ds) v) : ∃ a xs, v = .ref a ∧ LstAt K H a xs ∧ Reps K F ds xs := by
  cases h with
  | rep h => cases h with | lst h r => exact ⟨_, _, rfl, h.mono s, r⟩
  | own h => obtain ⟨vs, e, z, r⟩ := h; exact ⟨_, _, rfl, ⟨z, .inl e⟩, r⟩
theorem RepT.tuple {ds : List D} {v : V} (h : RepT K F H (.tuple ds) v) : ∃ a xs, v = .ref a ∧ TupAt K F a xs ∧ Reps K F ds xs := by
  cases h with
  | rep h => cases h with | tup h r => exact ⟨_, _, rfl, h, r⟩
  | own h => exact h.elim
theorem RepT.int {i : Int} {v : V} (h : RepT K F H (.int i) v) : v = .int i := by
  cases h with
  | rep h => cases h; rfl
  | own h => exact h.elim
theorem RepT.bl {i : Bool} {v : V} (h : RepT K F H (.bool i) v) : v = .bl i := by
  cases h with
  | rep h => cases h; rfl
  | own h => exact h.elim
theorem RepT.str {i : Str} {v : V} (h : RepT K F H (.str i) v) : v = .str i := by
  cases h with
  | rep h => cases h; rfl
  | own h => exact h.elim
theorem Rep.int_ {i : Int} {v : V} (h : Rep K F (.int i) v) : v = .int i := by cases h; rfl
theorem Rep.bl_ {i : Bool} {v : V} (h : Rep K F (.bool i) v) : v = .bl i := by cases h; rfl
/-- a sequence read now -/
inductive SqAt (K : PySem.W.Frag) (F H : Hp) (ds : List D) : V → Prop
  | l {a : Addr} {xs : List V} : LstAt K H a xs → Reps K F ds xs → SqAt K F H ds (.ref a)
  | t {a : Addr} {xs : List V} : TupAt K F a xs → Reps K F ds xs → SqAt K F H ds (.ref a)
theorem items_list {x : D} {ds : List D} (h : items? x = some ds) : x = .list ds ∨ x = .tuple ds := by
  cases x <;> simp [items?] at h
  · exact .inl (by rw [h])
  · exact .inr (by rw [h])
theorem RepT.sq (s : Same F H) {x : D} {ds : List D} {v : V} (h : RepT K F H x v) (e : items? x = some ds) : SqAt K F H ds v := by
  rcases items_list e with rfl | rfl
  · obtain ⟨a, xs, rfl, h, r⟩ := h.list s; exact .l h r
  · obtain ⟨a, xs, rfl, h, r⟩ := h.tuple; exact .t h r
theorem int?_eq {x : D} {i : Int} (h : int? x = some i) : x = .int i := by
  cases x <;> simp [int?] at h
  rw [h]
end

section
variable {X : Cx} {pins : List (Addr × Obj)} {σ : L2.St} {H F : Hp} {s : Shared}
theorem big_le : big ≤ sizeLine := by rw [sizeLine_eq]; decide
/-- a new tuple, its object known -/
theorem tupNew {xs : List V} {its : List Value} {Q : VK} (I : Inv X pins σ H s) (r : Vals xs its) (z : xs.length ≤ sizeLine) (t : Nat)
    (q : ∀ p o, H p = none → o.dict = none → o.cls = .type "tuple" → Q (.ref p) (upd H p (.frz o (.tup xs)))) :
    EP X pins σ Q (.ref s.heap.objs.size) { s with heap := s.heap.push { cls := .type "tuple", data := .seq its.toArray }, toks := t } := by
  refine ⟨.ref s.heap.objs.size, _, I.laid (t' := t) (o := .frz { cls := .type "tuple", data := .seq its.toArray } (.tup xs)) (fun b ob q => Heap.get?_push_of_some _ q) (Nat.le_refl _) ?_, rfl, q _ _ (I.hok.fresh (Nat.le_refl _)) rfl rfl⟩
  exact ⟨Heap.get?_push_size _ rfl, z, its, r, IsTup.new _ _⟩
theorem lstNew {xs : List V} {its : List Value} {Q : VK} (I : Inv X pins σ H s) (r : Vals xs its) (z : xs.length ≤ sizeLine) (t : Nat)
    (q : ∀ p, H p = none → Q (.ref p) (upd H p (.lst xs))) :
    EP X pins σ Q (.ref s.heap.objs.size) { s with heap := s.heap.push { cls := .type "list", data := .seq its.toArray }, toks := t } :=
  ⟨.ref _, _, I.lnew r z, rfl, q _ I.fresh⟩
open PySem.AutoSeq1 PySem.SeqAt in
theorem list_add_any (l : Addr) (items : Array Value) (n : Nat) (dd : Option Addr) (sl : Array (Option Value)) (b : Addr) (items2 : Array Value) (n2 : Nat) (dd2 : Option Addr) (sl2 : Array (Option Value)) (hc0 : items.size + items2.size ≤ sizeLine) :
    Meets (Builtin.«list.__add__» ⟨[.ref l, .ref b], []⟩) (fun _ R s => s.heap.get? l = some { cls := .type "list", dict := dd, data := .seq items n, slots := sl } ∧ s.heap.get? b = some { cls := .type "list", dict := dd2, data := .seq items2 n2, slots := sl2 } ∧ R (.ok (.ret (Value.ref s.heap.objs.size))) { s with heap := s.heap.push { cls := Value.type "list", data := Data.seq (items ++ items2) }, toks := s.toks }) :=
  .of_wp fun prog w A R s h => by
    obtain ⟨hp, g, d, tk, os⟩ := s
    obtain ⟨hl, hb, h⟩ := h
    have f1 := PySem.AutoSeq1.idx_int
    have f2 := PySem.AutoSeq1.sub_tuple_tuple
    have f3 := PySem.AutoSeq1.sub_list_list
    have f4 := PySem.AutoSeq1.sub_tuple_list
    have f5 := PySem.AutoSeq1.sub_list_tuple
    wp_walk using wpAny_loadPart' hl, wpAny_loadPart' hb
    exact ⟨_, rfl, h⟩
theorem op_addL {a b : Addr} {xs ys : List V} {Q : VK} (I : Inv X pins σ H s) (ha : SqL X.K H a xs) (hb : SqL X.K H b ys) (z : xs.length + ys.length ≤ sizeLine)
    (q : ∀ p, H p = none → Q (.ref p) (upd H p (.lst (xs ++ ys)))) : wpAny (model X.prog X.w) X.A (binaryOp .Add (.ref a) (.ref b)) (EP X pins σ Q) X.xe s := by
  obtain ⟨its, r1, ⟨⟨cls, dd, data, sl⟩, n, ho, hc, hd, hs⟩, _⟩ := I.list ha
  obtain ⟨its2, r2, ⟨⟨cls2, dd2, data2, sl2⟩, n2, ho2, hc2, hd2, hs2⟩, _⟩ := I.list hb
  simp only at hc hd hs hc2 hd2 hs2
  subst hc hs hc2 hs2
  refine PySem.concat_meets ⟨_, ho, rfl⟩ ⟨_, ho2, rfl⟩ noFill_list_add seq_list_add PySem.F.slot_list_add PySem.F.entry_list_add (PySem.F.args_list_add_2 _ _)
    (list_add_any a its.toArray n dd sl b its2.toArray n2 dd2 sl2 (by rw [List.size_toArray, List.size_toArray, ← r1.length, ← r2.length]; exact z)) ⟨ho, ho2, ?_⟩
  rw [show its.toArray ++ its2.toArray = (its ++ its2).toArray by simp]
  exact lstNew I (r1.append r2) (by rw [List.length_append]; exact z) s.toks q
end
end BT
namespace BT
open PySem PySem.Spec PyProof.Rows L2
/-! ## dicts -/
mutual
def nkey : D → NestedKey
  | .int i => .num i
  | .tuple ds => .tup (nkeys ds)
  | _ => .none
def nkeys : List D → List NestedKey
  | [] => []
  | d :: ds => nkey d :: nkeys ds
end
theorem nkeys_map : ∀ ds : List D, nkeys ds = ds.map nkey
  | [] => by simp [nkeys]
  | d :: ds => by simp [nkeys, nkeys_map ds]
theorem keyHs_map : ∀ ds : List D, keyH.keyHs ds = ds.map keyH
  | [] => by simp [keyH.keyHs]
  | d :: ds => by simp [keyH.keyHs, keyHs_map ds]
theorem hashes_map (w : World) : ∀ ks : List NestedKey, NestedKey.hashes w ks = ks.map (NestedKey.hash w)
  | [] => by simp [NestedKey.hashes]
  | k :: ks => by simp [NestedKey.hashes, hashes_map w ks]
theorem keyN_int {n : Nat} {i : Int} : keyN n (.int i) = true := by cases n <;> rfl
theorem keyN_cases {n : Nat} {d : D} (h : keyN n d = true) : (∃ i, d = .int i) ∨ ∃ m ds, n = m + 1 ∧ d = .tuple ds ∧ ∀ x ∈ ds, keyN m x = true := by
  cases d with
  | int i => exact .inl ⟨i, rfl⟩
  | tuple ds =>
    cases n with
    | zero => simp [keyN] at h
    | succ m => exact .inr ⟨m, ds, rfl, rfl, by simpa [keyN] using h⟩
  | _ => cases n <;> simp [keyN] at h
theorem nkey_hash (w : World) : ∀ (n : Nat) (d : D), keyN n d = true → (nkey d).hash w = keyH d := by
  intro n
  induction n with
  | zero =>
    intro d h
    rcases keyN_cases h with ⟨i, rfl⟩ | ⟨m, ds, e, _⟩
    · simp [nkey, NestedKey.hash, keyH]
    · cases e
  | succ n ih =>
    intro d h
    rcases keyN_cases h with ⟨i, rfl⟩ | ⟨m, ds, e, rfl, hx⟩
    · simp [nkey, NestedKey.hash, keyH]
    · cases e
      simp only [nkey, NestedKey.hash, keyH, nkeys_map, hashes_map, keyHs_map, List.map_map]
      congr 2
      exact List.map_congr_left fun x hm => ih x (hx x hm)
theorem nkey_depth : ∀ (n : Nat) (d : D), keyN n d = true → (nkey d).depth ≤ n := by
  intro n
  induction n with
  | zero =>
    intro d h
    rcases keyN_cases h with ⟨i, rfl⟩ | ⟨m, ds, e, _⟩
    · simp [nkey, NestedKey.depth]
    · cases e
  | succ n ih =>
    intro d h
    rcases keyN_cases h with ⟨i, rfl⟩ | ⟨m, ds, e, rfl, hx⟩
    · simp [nkey, NestedKey.depth]
    · cases e
      simp only [nkey, NestedKey.depth]
      have : ∀ ds : List D, (∀ x ∈ ds, keyN n x = true) → NestedKey.depthAll (nkeys ds) ≤ n := fun ds => by
        induction ds with
        | nil => intro _; simp [nkeys, NestedKey.depthAll]
        | cons d ds ih2 =>
          intro h
          simp only [nkeys, NestedKey.depthAll]
          have h1 := ih d (h d List.mem_cons_self)
          have h2 := ih2 fun x hm => h x (List.mem_cons_of_mem _ hm)
          omega
      have := this ds hx
      omega
theorem nkey_inj : ∀ (n : Nat) (a b : D), keyN n a = true → keyN n b = true → nkey a = nkey b → a = b := by
  intro n
  induction n with
  | zero =>
    intro a b h h2 e
    rcases keyN_cases h with ⟨i, rfl⟩ | ⟨m, ds, q, _⟩
    · rcases keyN_cases h2 with ⟨j, rfl⟩ | ⟨m, ds, q, _⟩
      · simp only [nkey] at e; cases e; rfl
      · cases q
    · cases q
  | succ n ih =>
    intro a b h h2 e
    rcases keyN_cases h with ⟨i, rfl⟩ | ⟨m, ds, q, rfl, hx⟩
    · rcases keyN_cases h2 with ⟨j, rfl⟩ | ⟨m, ds, q, rfl, hx⟩
      · simp only [nkey] at e; cases e; rfl
      · simp only [nkey] at e; cases e
    · rcases keyN_cases h2 with ⟨j, rfl⟩ | ⟨m2, ds2, q2, rfl, hx2⟩
      · simp only [nkey] at e; cases e
      · cases q; cases q2
        simp only [nkey, NestedKey.tup.injEq] at e
        congr 1
        have key : ∀ (l l2 : List D), (∀ x ∈ l, keyN n x = true) → (∀ x ∈ l2, keyN n x = true) → nkeys l = nkeys l2 → l = l2 := fun l => by
          induction l with
          | nil => intro l2 _ _ e; cases l2 with | nil => rfl | cons y l2 => simp [nkeys] at e
          | cons x l ih3 =>
            intro l2 g1 g2 e
            cases l2 with
            | nil => simp [nkeys] at e
            | cons y l2 =>
              simp only [nkeys, List.cons.injEq] at e
              rw [ih x y (g1 x List.mem_cons_self) (g2 y List.mem_cons_self) e.1, ih3 l2 (fun z hm => g1 z (List.mem_cons_of_mem _ hm)) (fun z hm => g2 z (List.mem_cons_of_mem _ hm)) e.2]
        exact key ds ds2 hx hx2 e
theorem keyN_plain : ∀ (n : Nat) (d : D), keyN n d = true → d.plain = true := by
  intro n
  induction n with
  | zero =>
    intro d h
    rcases keyN_cases h with ⟨i, rfl⟩ | ⟨m, ds, e, _⟩
    · rfl
    · cases e
  | succ n ih =>
    intro d h
    rcases keyN_cases h with ⟨i, rfl⟩ | ⟨m, ds, e, rfl, hx⟩
    · rfl
    · cases e
      simp only [PyData.plain]
      clear h
      induction ds with
      | nil => rfl
      | cons x ds ih2 =>
        simp only [PyData.plainAll, Bool.and_eq_true]
        exact ⟨ih x (hx x List.mem_cons_self), ih2 fun z hm => hx z (List.mem_cons_of_mem _ hm)⟩
theorem keyN_eqv : ∀ (n : Nat) (a b : D), keyN n a = true → keyN n b = true → (PyData.eqv a b = true ↔ a = b) := by
  intro n
  induction n with
  | zero =>
    intro a b h h2
    rcases keyN_cases h with ⟨i, rfl⟩ | ⟨m, ds, q, _⟩
    · rcases keyN_cases h2 with ⟨j, rfl⟩ | ⟨m, ds, q, _⟩
      · simp [PyData.eqv]
      · cases q
    · cases q
  | succ n ih =>
    intro a b h h2
    rcases keyN_cases h with ⟨i, rfl⟩ | ⟨m, ds, q, rfl, hx⟩
    · rcases keyN_cases h2 with ⟨j, rfl⟩ | ⟨m, ds, q, rfl, hx⟩
      · simp [PyData.eqv]
      · simp [PyData.eqv]
    · rcases keyN_cases h2 with ⟨j, rfl⟩ | ⟨m2, ds2, q2, rfl, hx2⟩
      · simp [PyData.eqv]
      · cases q; cases q2
        simp only [PyData.eqv, PyData.tuple.injEq]
        have key : ∀ (l l2 : List D), (∀ x ∈ l, keyN n x = true) → (∀ x ∈ l2, keyN n x = true) → (PyData.eqvAll l l2 = true ↔ l = l2) := fun l => by
          induction l with
          | nil => intro l2 _ _; cases l2 <;> simp [PyData.eqvAll]
          | cons x l ih3 =>
            intro l2 g1 g2
            cases l2 with
            | nil => simp [PyData.eqvAll]
            | cons y l2 =>
              simp only [PyData.eqvAll, Bool.and_eq_true, List.cons.injEq]
              rw [ih x y (g1 x List.mem_cons_self) (g2 y List.mem_cons_self), ih3 l2 (fun z hm => g1 z (List.mem_cons_of_mem _ hm)) (fun z hm => g2 z (List.mem_cons_of_mem _ hm))]
        exact key ds ds2 hx hx2

/-! ### look-ups and stores by data -/
section
theorem dlook_mem {kvs : List (D × D)} {k d : D} (h : dlook kvs k = some d) : ∃ k', (k', d) ∈ kvs ∧ PyData.eqv k' k = true := by
  induction kvs with
  | nil => simp [dlook] at h
  | cons p kvs ih =>
    unfold dlook at h
    split at h
    · rename_i q; cases h; exact ⟨p.1, List.mem_cons_self, q⟩
    · obtain ⟨k', h1, h2⟩ := ih h; exact ⟨k', List.mem_cons_of_mem _ h1, h2⟩
theorem dstore_len (kvs : List (D × D)) (k v : D) : (dstore kvs k v).length ≤ kvs.length + 1 := by
  induction kvs with
  | nil => simp [dstore]
  | cons p kvs ih =>
    unfold dstore
    split
    · simp
    · simp; omega
theorem dstore_keys (kvs : List (D × D)) (k v x : D) (h : x ∈ (dstore kvs k v).map (·.1)) : x ∈ kvs.map (·.1) ∨ x = k := by
  induction kvs with
  | nil => simp [dstore] at h; exact .inr h
  | cons p kvs ih =>
    unfold dstore at h
    split at h
    · exact .inl (by simpa using h)
    · rw [List.map_cons, List.mem_cons] at h
      rcases h with h | h
      · exact .inl (by rw [h]; simp)
      · rcases ih h with h | h
        · exact .inl (List.mem_cons_of_mem _ h)
        · exact .inr h
theorem dstore_nodup {kvs : List (D × D)} {k v : D} (he : ∀ x ∈ kvs.map (·.1), (PyData.eqv x k = true ↔ x = k)) (h : (kvs.map (·.1)).Nodup) : ((dstore kvs k v).map (·.1)).Nodup := by
  induction kvs with
  | nil => simp [dstore]
  | cons p kvs ih =>
    rw [List.map_cons, List.nodup_cons] at h
    unfold dstore
    split
    · rw [List.map_cons, List.nodup_cons]; exact h
    · rename_i q
      rw [List.map_cons, List.nodup_cons]
      refine ⟨fun hm => ?_, ih (fun x hx => he x (List.mem_cons_of_mem _ hx)) h.2⟩
      rcases dstore_keys _ _ _ _ hm with hm | hm
      · exact h.1 hm
      · exact q ((he p.1 (by simp)).mpr hm)
theorem kOk_hom {kvs : List (D × D)} {k : D} (h : kOk kvs k = true) (hm : homK (kvs.map (·.1))) : keyN 8 k = true ∧ ((∀ x ∈ kvs.map (·.1), keyN 8 x = true ∧ isTup x = isTup k)) := by
  unfold kOk at h
  rw [Bool.and_eq_true] at h
  refine ⟨h.1, ?_⟩
  cases kvs with
  | nil => intro x hx; cases hx
  | cons p kvs =>
    have e : isTup p.1 = isTup k := by simpa using h.2
    intro x hx
    rcases hm with hm | hm
    · rw [← e, (hm p.1 (by simp)).2]; exact hm x hx
    · rw [← e, (hm p.1 (by simp)).2]; exact hm x hx
theorem homK_store {kvs : List (D × D)} {k v : D} (h : kOk kvs k = true) (hm : homK (kvs.map (·.1))) : homK ((dstore kvs k v).map (·.1)) := by
  obtain ⟨h1, h2⟩ := kOk_hom h hm
  cases q : isTup k with
  | true =>
    refine .inr fun x hx => ?_
    rcases dstore_keys _ _ _ _ hx with hx | hx
    · exact ⟨(h2 x hx).1, (h2 x hx).2.trans q⟩
    · rw [hx]; exact ⟨h1, q⟩
  | false =>
    refine .inl fun x hx => ?_
    rcases dstore_keys _ _ _ _ hx with hx | hx
    · exact ⟨(h2 x hx).1, (h2 x hx).2.trans q⟩
    · rw [hx]; exact ⟨h1, q⟩
theorem keyN_ntup {n : Nat} {d : D} (h : keyN n d = true) (q : isTup d = false) : ∃ i, d = .int i := by
  rcases keyN_cases h with h | ⟨m, ds, _, rfl, _⟩
  · exact h
  · cases q
theorem keyN_tup {n : Nat} {d : D} (h : keyN n d = true) (q : isTup d = true) : ∃ ds, d = .tuple ds := by
  rcases keyN_cases h with ⟨i, rfl⟩ | ⟨m, ds, _, rfl, _⟩
  · cases q
  · exact ⟨ds, rfl⟩
end
def intOf : D → Int
  | .int i => i
  | _ => 0
def addrOf : Value → Addr
  | .ref a => a
  | _ => 0
section
variable {K : PySem.W.Frag} {F H : Hp}
/-- entries by whole numbers -/
def KVI (K : PySem.W.Frag) (F : Hp) : List (D × D) → List (Int × Value) → Prop := Paired fun p q => p.1 = .int q.1 ∧ ∃ v, Rep K F p.2 v ∧ RelV v q.2
/-- entries by tuples -/
def KVT (K : PySem.W.Frag) (F : Hp) : List (D × D) → List (NestedKey × Addr × Value) → Prop := Paired fun p q => q.1 = nkey p.1 ∧ keyN 8 p.1 = true ∧ Rep K F p.1 (.ref q.2.1) ∧ ∃ v, Rep K F p.2 v ∧ RelV v q.2.2
theorem KVI.look {kvs : List (D × D)} {L : List (Int × Value)} (h : KVI K F kvs L) (i : Int) : match dlook kvs (.int i) with
    | some d => ∃ u v, valueAt L i = some u ∧ Rep K F d v ∧ RelV v u
    | none => valueAt L i = none := by
  unfold KVI at h
  induction h with
  | nil => simp [dlook, valueAt]
  | @cons p q ps qs h t ih =>
    obtain ⟨e, v, r1, r2⟩ := h
    unfold dlook
    by_cases hi : q.1 = i
    · rw [e, if_pos (by simp [PyData.eqv, hi])]
      exact ⟨q.2, v, by simp [valueAt, hi], r1, r2⟩
    · rw [e, if_neg (by simp [PyData.eqv, hi])]
      have z : valueAt (q :: qs) i = valueAt qs i := by simp [valueAt, hi]
      rw [z]
      exact ih
theorem KVT.look {kvs : List (D × D)} {L : List (NestedKey × Addr × Value)} (h : KVT K F kvs L) {k : D} (hk : keyN 8 k = true) : match dlook kvs k with
    | some d => ∃ p v, atKey L (nkey k) = some p ∧ Rep K F d v ∧ RelV v p.2
    | none => atKey L (nkey k) = none := by
  unfold KVT at h
  induction h with
  | nil => simp [dlook, atKey]
  | @cons p q ps qs h t ih =>
    obtain ⟨e, kp, r0, v, r1, r2⟩ := h
    unfold dlook
    by_cases hi : p.1 = k
    · rw [if_pos ((keyN_eqv 8 _ _ kp hk).mpr hi)]
      exact ⟨q.2, v, by simp [atKey, e, hi], r1, r2⟩
    · have hn : ¬ q.1 = nkey k := fun z => hi (nkey_inj 8 _ _ kp hk (e ▸ z))
      rw [if_neg fun z => hi ((keyN_eqv 8 _ _ kp hk).mp z)]
      have z : atKey (q :: qs) (nkey k) = atKey qs (nkey k) := by simp [atKey, hn]
      rw [z]
      exact ih
theorem KVI.nodup {kvs : List (D × D)} {L : List (Int × Value)} (h : KVI K F kvs L) (n : (kvs.map (·.1)).Nodup) : (L.map (·.1)).Nodup := by
  have e : kvs.map (·.1) = (L.map (·.1)).map PyData.int := by
    unfold KVI at h
    induction h with
    | nil => rfl
    | cons h t ih => rw [List.map_cons, List.map_cons, List.map_cons, h.1, ih (by rw [List.map_cons, List.nodup_cons] at n; exact n.2)]
  rw [e] at n
  exact (List.pairwise_map.mp n).imp fun h e => h (congrArg _ e)
theorem KVT.nodup {kvs : List (D × D)} {L : List (NestedKey × Addr × Value)} (h : KVT K F kvs L) (n : (kvs.map (·.1)).Nodup) : (L.map (·.1)).Nodup := by
  unfold KVT at h
  induction h with
  | nil => exact List.nodup_nil
  | @cons p q ps qs h t ih =>
    rw [List.map_cons, List.nodup_cons] at n ⊢
    refine ⟨fun hm => n.1 ?_, ih n.2⟩
    have : ∀ {l : List (D × D)} {m : List (NestedKey × Addr × Value)}, KVT K F l m → q.1 ∈ m.map (·.1) → p.1 ∈ l.map (·.1) := by
      intro l m z
      unfold KVT at z
      induction z with
      | nil => intro hm; cases hm
      | @cons p' q' ps' qs' h' t' ih' =>
        intro hm
        rw [List.map_cons, List.mem_cons] at hm ⊢
        rcases hm with hm | hm
        · exact .inl (nkey_inj 8 _ _ h.2.1 h'.2.1 (by rw [← h.1, ← h'.1]; exact hm))
        · exact .inr (ih' hm)
    exact this t hm
theorem stored_new {L : List (Int × Value)} {i : Int} {u : Value} {q : Int × Value} (h : q.1 ≠ i) : stored (q :: L) i u = q :: stored L i u := by
  unfold stored
  by_cases z : L.any (fun kv => decide (kv.1 = i)) = true
  · simp [z, h]
  · simp [z, h]
theorem stored_hit {L : List (Int × Value)} {i : Int} {u : Value} {q : Int × Value} (h : q.1 = i) (n : i ∉ L.map (·.1)) : stored (q :: L) i u = (i, u) :: L := by
  unfold stored
  have : L.map (fun kv => if kv.1 = i then (kv.1, u) else kv) = L := by
    conv => rhs; rw [← List.map_id L]
    refine List.map_congr_left fun x hx => ?_
    rw [if_neg fun z => n (by rw [← z]; exact List.mem_map_of_mem hx)]; rfl
  simp [h, this]
theorem KVI.store {kvs : List (D × D)} {L : List (Int × Value)} (h : KVI K F kvs L) (n : (L.map (·.1)).Nodup) {i : Int} {d : D} {v : V} {u : Value} (r1 : Rep K F d v) (r2 : RelV v u) : KVI K F (dstore kvs (.int i) d) (stored L i u) := by
  unfold KVI at h ⊢
  induction h with
  | nil => exact .cons ⟨rfl, v, r1, r2⟩ .nil
  | @cons p q ps qs h t ih =>
    rw [List.map_cons, List.nodup_cons] at n
    unfold dstore
    by_cases hi : q.1 = i
    · rw [h.1, if_pos (by simp [PyData.eqv, hi]), stored_hit hi (hi ▸ n.1)]
      exact .cons ⟨by rw [hi], v, r1, r2⟩ t
    · rw [h.1, if_neg (by simp [PyData.eqv, hi]), stored_new hi]
      exact .cons h (ih n.2)
theorem storedH_newc {L : List (NestedKey × Addr × Value)} {i : NestedKey} {a : Addr} {u : Value} {q : NestedKey × Addr × Value} (h : q.1 ≠ i) : storedH (q :: L) i a u = q :: storedH L i a u := by
  unfold storedH
  have z : atKey (q :: L) i = atKey L i := by simp [atKey, h]
  rw [z]
  split
  · simp [putAt, h]
  · simp
theorem storedH_hit {L : List (NestedKey × Addr × Value)} {i : NestedKey} {a : Addr} {u : Value} {q : NestedKey × Addr × Value} (h : q.1 = i) (n : i ∉ L.map (·.1)) : storedH (q :: L) i a u = (i, q.2.1, u) :: L := by
  unfold storedH
  have z : atKey (q :: L) i = some q.2 := by simp [atKey, h]
  rw [z, List.map_cons, map_putAt_of_not_mem _ _ _ n]
  simp [putAt, h]
theorem KVT.store {kvs : List (D × D)} {L : List (NestedKey × Addr × Value)} (h : KVT K F kvs L) (n : (L.map (·.1)).Nodup) {k d : D} {a : Addr} {v : V} {u : Value} (hk : keyN 8 k = true) (r0 : Rep K F k (.ref a)) (r1 : Rep K F d v) (r2 : RelV v u) : KVT K F (dstore kvs k d) (storedH L (nkey k) a u) := by
  unfold KVT at h ⊢
  induction h with
  | nil => exact .cons ⟨rfl, hk, r0, v, r1, r2⟩ .nil
  | @cons p q ps qs h t ih =>
    rw [List.map_cons, List.nodup_cons] at n
    unfold dstore
    by_cases hi : p.1 = k
    · have hq : q.1 = nkey k := by rw [h.1, hi]
      rw [if_pos ((keyN_eqv 8 _ _ h.2.1 hk).mpr hi), storedH_hit hq (hq ▸ n.1)]
      exact .cons ⟨by rw [hi], h.2.1, h.2.2.1, v, r1, r2⟩ t
    · have hn : q.1 ≠ nkey k := fun z => hi (nkey_inj 8 _ _ h.2.1 hk (h.1 ▸ z))
      rw [if_neg fun z => hi ((keyN_eqv 8 _ _ h.2.1 hk).mp z), storedH_newc hn]
      exact .cons h (ih n.2)
end

/-! ### with the heap -/
section
variable {X : Cx} {pins : List (Addr × Obj)} {σ : L2.St} {H F : Hp} {s : Shared} {a : Addr}
theorem nested_all {X : Cx} {h : Heap} {n : Nat} (ih : ∀ (d : D) (v : V) (u : Value), keyN n d = true → Rep X.K F d v → RelV v u → NestedIs h (nkey d) u) : ∀ {ds : List D} {xs : List V} {its : List Value}, (∀ x ∈ ds, keyN n x = true) → Reps X.K F ds xs → Vals xs its → NestedAll h (nkeys ds) its
  | [], _, _, _, r, q => by cases r; cases q; exact .nil
  | d :: ds, _, _, hk, r, q => by
    cases r with
    | cons r1 r2 =>
      cases q with
      | cons q1 q2 =>
        exact .cons (ih _ _ _ (hk d List.mem_cons_self) r1 q1) (nested_all ih (fun x hx => hk x (List.mem_cons_of_mem _ hx)) r2 q2)
theorem nested_is (I : Inv X pins σ H s) (sf : Same F H) : ∀ (n : Nat) (d : D) (v : V) (u : Value), keyN n d = true → Rep X.K F d v → RelV v u → NestedIs s.heap (nkey d) u := by
  intro n
  induction n with
  | zero =>
    intro d v u h r q
    rcases keyN_cases h with ⟨i, rfl⟩ | ⟨m, ds, e, _⟩
    · cases r
      obtain ⟨t, rfl⟩ := q
      exact .int _ _
    · cases e
  | succ n ih =>
    intro d v u h r q
    rcases keyN_cases h with ⟨i, rfl⟩ | ⟨m, ds, e, rfl, hx⟩
    · cases r
      obtain ⟨t, rfl⟩ := q
      exact .int _ _
    · cases e
      cases r with
      | tup ht rr =>
        cases q
        obtain ⟨its, rv, ⟨o, ho, hc, m, hd⟩, _⟩ := I.tuple (ht.mono sf).sq
        exact .tup ho hc hd (by simpa using nested_all ih hx rr rv)
theorem key_is (I : Inv X pins σ H s) (sf : Same F H) {k : D} {b : Addr} (hk : keyN 8 k = true) (r : Rep X.K F k (.ref b)) : (nestedKind X.prog X.w).is s.heap (nkey k) b :=
  ⟨nested_is I sf 8 k _ _ hk r rfl, nkey_depth 8 k hk⟩
theorem ent_int {K : PySem.W.Frag} {P : Program} {w : World} : ∀ {kvs : List (D × D)} {ks vs : List V} {es : List DictEntry}, Entr (kvs.map (·.1)) ks vs es → (∀ d ∈ kvs.map (·.1), ∃ i, d = .int i) → Reps K F (kvs.map (·.1)) ks → Reps K F (kvs.map (·.2)) vs →
    ∃ L, KVI K F kvs L ∧ Pairs (PySem.intKind P w) es L ∧ ∀ e ∈ es, ∃ k, (PySem.intKind P w).is k e.key = true ∧ e.hash = (PySem.intKind P w).hash k
  | [], _, _, _, h, _, _, _ => by cases h; exact ⟨[], .nil, .nil, fun e he => nomatch he⟩
  | p :: kvs, _, _, _, h, hi, r, q => by
    cases h with
    | @cons _ k v e _ ks vs es h1 h2 h3 h =>
      cases r with
      | cons r1 r2 =>
        cases q with
        | cons q1 q2 =>
          obtain ⟨L, l1, l2, l3⟩ := ent_int (P := P) (w := w) h (fun d hd => hi d (List.mem_cons_of_mem _ hd)) r2 q2
          obtain ⟨i, ei⟩ := hi p.1 (by simp)
          have r1 : Rep K F p.1 k := r1
          have h1 : e.hash = keyH p.1 := h1
          rw [ei] at r1 h1
          cases r1
          obtain ⟨t, ht⟩ := h2
          have ik : (PySem.intKind P w).is i e.key = true := by rw [ht]; show (i == i) = true; exact beq_self_eq_true i
          refine ⟨(i, e.val) :: L, .cons ⟨ei, _, q1, h3⟩ l1, .cons ik rfl l2, fun e' he => ?_⟩
          rcases List.mem_cons.mp he with rfl | he
          · exact ⟨i, ik, h1⟩
          · exact l3 e' he
theorem int_ent {K : PySem.W.Frag} {P : Program} {w : World} : ∀ {kvs : List (D × D)} {L : List (Int × Value)} {es : List DictEntry}, KVI K F kvs L → Pairs (PySem.intKind P w) es L → (∀ e ∈ es, ∃ k, (PySem.intKind P w).is k e.key = true ∧ e.hash = (PySem.intKind P w).hash k) →
    ∃ ks vs, Entr (kvs.map (·.1)) ks vs es ∧ Reps K F (kvs.map (·.1)) ks ∧ Reps K F (kvs.map (·.2)) vs
  | [], _, _, h, q, _ => by cases h; cases q; exact ⟨[], [], .nil, .nil, .nil⟩
  | p :: kvs, _, _, h, q, hh => by
    cases h with
    | @cons _ kv _ L h1 h2 =>
      cases q with
      | @cons e _ es _ q1 q2 q3 =>
        obtain ⟨ks, vs, e1, e2, e3⟩ := int_ent h2 q3 fun e' he => hh e' (List.mem_cons_of_mem _ he)
        obtain ⟨e4, v, r1, r2⟩ := h1
        obtain ⟨k, k1, k2⟩ := hh e List.mem_cons_self
        have ek : k = kv.1 := Value.isInt_inj _ _ _ k1 q1
        subst ek
        obtain ⟨t, ht⟩ := Value.isInt_shape q1
        refine ⟨.int kv.1 :: ks, v :: vs, .cons (by show e.hash = keyH p.1; rw [k2, e4]; rfl) ⟨t, ht⟩ (by rw [q2]; exact r2) e1, .cons (by show Rep K F p.1 _; rw [e4]; exact .int _) e2, .cons r1 e3⟩
theorem ent_tup {K : PySem.W.Frag} {P : Program} {w : World} : ∀ {kvs : List (D × D)} {ks vs : List V} {es : List DictEntry}, Entr (kvs.map (·.1)) ks vs es → (∀ d ∈ kvs.map (·.1), keyN 8 d = true ∧ isTup d = true) → Reps K F (kvs.map (·.1)) ks → Reps K F (kvs.map (·.2)) vs →
    ∃ L, KVT K F kvs L ∧ es = L.map (entryOfKey (nestedKind P w))
  | [], _, _, _, h, _, _, _ => by cases h; exact ⟨[], .nil, rfl⟩
  | p :: kvs, _, _, _, h, hi, r, q => by
    cases h with
    | @cons _ k v e _ ks vs es h1 h2 h3 h =>
      cases r with
      | cons r1 r2 =>
        cases q with
        | cons q1 q2 =>
          obtain ⟨L, l1, l2⟩ := ent_tup (P := P) (w := w) h (fun d hd => hi d (List.mem_cons_of_mem _ hd)) r2 q2
          obtain ⟨kk, kt⟩ := hi p.1 (by simp)
          obtain ⟨ds, ed⟩ := keyN_tup kk kt
          have r1' : Rep K F p.1 k := r1
          have h1 : e.hash = keyH p.1 := h1
          rw [ed] at r1'
          cases r1' with
          | @tup b xs _ ht rr =>
            have h2' : e.key = Value.ref b := h2
            refine ⟨(nkey p.1, b, e.val) :: L, .cons ⟨rfl, kk, r1, _, q1, h3⟩ l1, ?_⟩
            rw [List.map_cons, ← l2]
            congr 1
            have e2 : entryOfKey (nestedKind P w) (nkey p.1, b, e.val) = ⟨(nkey p.1).hash w, .ref b, e.val⟩ := rfl
            rw [e2, nkey_hash w 8 _ kk, ← h1, ← h2']
theorem tup_ent {K : PySem.W.Frag} {P : Program} {w : World} : ∀ {kvs : List (D × D)} {L : List (NestedKey × Addr × Value)}, KVT K F kvs L →
    ∃ ks vs, Entr (kvs.map (·.1)) ks vs (L.map (entryOfKey (nestedKind P w))) ∧ Reps K F (kvs.map (·.1)) ks ∧ Reps K F (kvs.map (·.2)) vs
  | [], _, h => by cases h; exact ⟨[], [], .nil, .nil, .nil⟩
  | p :: kvs, _, h => by
    cases h with
    | @cons _ q _ L h1 h2 =>
      obtain ⟨ks, vs, e1, e2, e3⟩ := tup_ent (P := P) (w := w) h2
      obtain ⟨e4, kk, r0, v, r1, r2⟩ := h1
      exact ⟨.ref q.2.1 :: ks, v :: vs, .cons (by show NestedKey.hash w q.1 = keyH p.1; rw [e4]; exact nkey_hash w 8 _ kk) rfl r2 e1, .cons r0 e2, .cons r1 e3⟩
/-- the dict at a, read -/
theorem dct_obj (I : Inv X pins σ H s) {ds : List D} {ks vs : List V} (h : DctAt H a ds ks vs) : (a == sysModules) = false ∧ ∃ o, s.heap.get? a = some o ∧ DctO o ds ks vs := by
  obtain ⟨hd, o, e, w⟩ := h
  exact ⟨hd, o, (I.hok a _ e).1, w⟩
theorem dct_int (I : Inv X pins σ H s) {kvs : List (D × D)} {ks vs : List V} (h : DctAt H a (kvs.map (·.1)) ks vs) (r : Reps X.K F (kvs.map (·.1)) ks) (q : Reps X.K F (kvs.map (·.2)) vs) (hi : ∀ d ∈ kvs.map (·.1), keyN 8 d = true ∧ isTup d = false) :
    (a == sysModules) = false ∧ ∃ L, KVI X.K F kvs L ∧ s.heap.DictOf (PySem.intKind X.prog X.w) a L := by
  obtain ⟨hd, o, ho, w⟩ := dct_obj I h
  obtain ⟨es, ep, ed, en⟩ := w.da
  obtain ⟨L, l1, l2, l3⟩ := ent_int (P := X.prog) (w := X.w) en (fun d hm => keyN_ntup (hi d hm).1 (hi d hm).2) r q
  exact ⟨hd, L, l1, o, es, ep, ho, w.ex, ed, fun e he => l3 e (by simpa using he), l2, l1.nodup w.nd⟩
theorem dct_tup (I : Inv X pins σ H s) (sf : Same F H) {kvs : List (D × D)} {ks vs : List V} (h : DctAt H a (kvs.map (·.1)) ks vs) (r : Reps X.K F (kvs.map (·.1)) ks) (q : Reps X.K F (kvs.map (·.2)) vs) (hi : ∀ d ∈ kvs.map (·.1), keyN 8 d = true ∧ isTup d = true) :
    (a == sysModules) = false ∧ ∃ L, KVT X.K F kvs L ∧ s.heap.DictOfH (nestedKind X.prog X.w) a L := by
  obtain ⟨hd, o, ho, w⟩ := dct_obj I h
  obtain ⟨es, ep, ed, en⟩ := w.da
  obtain ⟨L, l1, l2⟩ := ent_tup (P := X.prog) (w := X.w) en hi r q
  refine ⟨hd, L, l1, o, es, ep, ho, w.ex, ed, l2, ?_, l1.nodup w.nd⟩
  have all : ∀ {l : List (D × D)} {m : List (NestedKey × Addr × Value)}, KVT X.K F l m → ∀ x ∈ m, (nestedKind X.prog X.w).is s.heap x.1 x.2.1 := by
    intro l m z
    unfold KVT at z
    induction z with
    | nil => intro x hx; cases hx
    | cons h1 t ih =>
      intro x hx
      rcases List.mem_cons.mp hx with rfl | hx
      · rw [h1.1]; exact key_is I sf h1.2.1 h1.2.2.1
      · exact ih x hx
  exact all l1
/-- a dict behind a change -/
theorem dct_write (I : Inv X pins σ H s) {o0 o : Obj} {h' : Heap} {t' : Nat} (e : H a = some (.ext (objIs a o0))) (ho : h'.get? a = some o) (hs : Heap.SameBut a s.heap h') : Inv X pins σ (upd H a (.ext (objIs a o))) { s with heap := h', toks := t' } :=
  I.write (x := a) (e := a) (by rw [e]; exact True.intro) (.inl rfl) (fun b q hb z => (hs.2 b hb).trans z) ⟨o, ho⟩ ⟨ho, ⟨o, ho⟩, fun h1 h2 p k => k o p⟩
theorem RepT.key {n : Nat} {d : D} {v : V} {K : PySem.W.Frag} (hk : keyN n d = true) (h : RepT K F H d v) : Rep K F d v := by
  cases h with
  | rep h => exact h
  | own h =>
    rcases keyN_cases hk with ⟨i, rfl⟩ | ⟨m, ds, _, rfl, _⟩ <;> exact h.elim
theorem Rep.tref {ds : List D} {v : V} {K : PySem.W.Frag} (h : Rep K F (.tuple ds) v) : ∃ b, v = .ref b := by cases h; exact ⟨_, rfl⟩
end

/-! ### the operations -/
section
variable {X : Cx} {pins : List (Addr × Obj)} {σ : L2.St} {H F : Hp} {s : Shared}
theorem units_in1 {A : Around} {n : Nat} (h : A.units + 64 < cLine) (hn : n ≤ 60) : A.in1.units + n < cLine := by
  show A.units + 1 + n < cLine
  omega
/-- what stands at a, told for one key -/
theorem dct_two (I : Inv X pins σ H s) (sf : Same F H) {kvs : List (D × D)} {a : Addr} {ks vs : List V} (h : DctAt H a (kvs.map (·.1)) ks vs) (r : Reps X.K F (kvs.map (·.1)) ks) (q : Reps X.K F (kvs.map (·.2)) vs) {k : D} {y : V} {u : Value} (hk : kOk kvs k = true) (ry : Rep X.K F k y) (vu : RelV y u) :
    (a == sysModules) = false ∧ ((∃ i L, k = .int i ∧ (PySem.intKind X.prog X.w).is i u = true ∧ KVI X.K F kvs L ∧ s.heap.DictOf (PySem.intKind X.prog X.w) a L) ∨
      ∃ b L, keyN 8 k = true ∧ y = .ref b ∧ u = .ref b ∧ (nestedKind X.prog X.w).is s.heap (nkey k) b ∧ KVT X.K F kvs L ∧ s.heap.DictOfH (nestedKind X.prog X.w) a L) := by
  obtain ⟨hd, o, eo, w⟩ := id h
  obtain ⟨k1, k2⟩ := kOk_hom hk w.hm
  cases kt : isTup k with
  | false =>
    obtain ⟨i, rfl⟩ := keyN_ntup k1 kt
    obtain ⟨hd, L, l1, l2⟩ := dct_int I h r q fun d hm => ⟨(k2 d hm).1, (k2 d hm).2.trans kt⟩
    cases ry
    obtain ⟨t, rfl⟩ := vu
    exact ⟨hd, .inl ⟨i, L, rfl, by show (i == i) = true; exact beq_self_eq_true i, l1, l2⟩⟩
  | true =>
    obtain ⟨hd, L, l1, l2⟩ := dct_tup I sf h r q fun d hm => ⟨(k2 d hm).1, (k2 d hm).2.trans kt⟩
    obtain ⟨ds, e⟩ := keyN_tup k1 kt
    obtain ⟨b, rfl⟩ : ∃ b, y = .ref b := by rw [e] at ry; exact ry.tref
    cases vu
    exact ⟨hd, .inr ⟨b, L, k1, rfl, rfl, key_is I sf k1 ry, l1, l2⟩⟩
theorem dct_getItem (hu : X.A.units + 64 < cLine) (I : Inv X pins σ H s) (sf : Same F H) {kvs : List (D × D)} {x : V} {v : Value} {k d : D} {y : V} {u : Value} {Q : VK} (hx : RepT X.K F H (.dict kvs) x) (rx : RelV x v) (hy : RepT X.K F H k y) (vu : RelV y u) (hk : kOk kvs k = true) (hd : dlook kvs k = some d)
    (q : ∀ z, Rep X.K F d z → Q z H) : s.TypeIs v "dict" ∧ wpAny (model X.prog X.w) X.A (getItem v u) (EP X pins σ Q) X.xe s := by
  obtain ⟨a, ks, vs, rfl, h, r, rv⟩ := hx.dict sf
  cases rx
  have k1 : keyN 8 k = true := (Bool.and_eq_true .. ▸ hk : _ ∧ _).1
  obtain ⟨_, h2⟩ := dct_two I sf h r rv hk (hy.key k1) vu
  rcases h2 with ⟨i, L, rfl, ik, l1, l2⟩ | ⟨b, L, _, rfl, rfl, ik, l1, l2⟩
  · have hl := l1.look i
    rw [hd] at hl
    obtain ⟨w, z, e1, r1, r2⟩ := hl
    exact ⟨l2.typeIs, wpAny_getItem_of ik l2.mapOf e1 ⟨z, H, I.tok _, r2, q z r1⟩⟩
  · have hl := l1.look k1
    rw [hd] at hl
    obtain ⟨p, z, e1, r1, r2⟩ := hl
    exact ⟨l2.typeIs, wpAny_getItem_heap (knd := nestedKind X.prog X.w) (units_in1 hu (by decide)) ik l2 e1 ⟨z, H, I.tok _, r2, q z r1⟩⟩
theorem dct_in (hu : X.A.units + 64 < cLine) (I : Inv X pins σ H s) (sf : Same F H) {kvs : List (D × D)} {x : V} {v : Value} {k : D} {y : V} {u : Value} {Q : VK} (hx : RepT X.K F H (.dict kvs) x) (rx : RelV x v) (hy : RepT X.K F H k y) (vu : RelV y u) (hk : kOk kvs k = true) (neg : Bool)
    (q : Q (.bl (if neg = true then !(dlook kvs k).isSome else (dlook kvs k).isSome)) H) : wpAny (model X.prog X.w) X.A (compareOp (if neg = true then .NotIn else .In) u v) (EP X pins σ Q) X.xe s := by
  obtain ⟨a, ks, vs, rfl, h, r, rv⟩ := hx.dict sf
  cases rx
  have k1 : keyN 8 k = true := (Bool.and_eq_true .. ▸ hk : _ ∧ _).1
  obtain ⟨hd, h2⟩ := dct_two I sf h r rv hk (hy.key k1) vu
  rcases h2 with ⟨i, L, rfl, ik, l1, l2⟩ | ⟨b, L, _, rfl, rfl, ik, l1, l2⟩
  · have hl := l1.look i
    have e : (valueAt L i).isSome = (dlook kvs (.int i)).isSome := by
      cases hd : dlook kvs (.int i) with
      | none => rw [hd] at hl; rw [hl]; rfl
      | some d => rw [hd] at hl; obtain ⟨_, _, e, _⟩ := hl; rw [e]; rfl
    cases neg with
    | true => exact wpAny_notIn_of ik hd l2.mapOf ⟨.bl _, H, I.tok _, rfl, by rw [e]; exact q⟩
    | false => exact wpAny_in_of ik hd l2.mapOf ⟨.bl _, H, I.tok _, rfl, by rw [e]; exact q⟩
  · have hl := l1.look k1
    have e : (atKey L (nkey k)).isSome = (dlook kvs k).isSome := by
      cases hd : dlook kvs k with
      | none => rw [hd] at hl; rw [hl]; rfl
      | some d => rw [hd] at hl; obtain ⟨_, _, e, _⟩ := hl; rw [e]; rfl
    have hroom : (nestedKind X.prog X.w).room X.A.in1 := units_in1 hu (by decide)
    cases neg with
    | true =>
      refine notIn_keyed hroom ik hd ⟨L, l2, rfl⟩ ⟨.bl _, H, I.tok _, rfl, ?_⟩
      rw [valueAt_pairsH, Option.isSome_map, e]
      exact q
    | false =>
      refine in_keyed hroom ik hd ⟨L, l2, rfl⟩ ⟨.bl _, H, I.tok _, rfl, ?_⟩
      rw [valueAt_pairsH, Option.isSome_map, e]
      exact q
/-- d.get(k), d.get(k, x) -/
theorem dct_get (hu : X.A.units + 64 < cLine) (I : Inv X pins σ H s) (sf : Same F H) {kvs : List (D × D)} {x : V} {v : Value} {k d : D} {y : V} {u : Value} {Q : VK} (hx : RepT X.K F H (.dict kvs) x) (rx : RelV x v) (hy : RepT X.K F H k y) (vu : RelV y u) (hk : kOk kvs k = true)
    (more : List Value) (hm : (more = [] ∧ d = .none) ∨ ∃ y2 u2, more = [u2] ∧ RelV y2 u2 ∧ Rep X.K F d y2)
    (q : ∀ z, Rep X.K F ((dlook kvs k).getD d) z → Q z H) : wpAny (model X.prog X.w) X.A (call (.builtin "dict.get") (v :: u :: more)) (EP X pins σ Q) X.xe s := by
  obtain ⟨a, ks, vs, rfl, h, r, rv⟩ := hx.dict sf
  cases rx
  have k1 : keyN 8 k = true := (Bool.and_eq_true .. ▸ hk : _ ∧ _).1
  obtain ⟨hd, h2⟩ := dct_two I sf h r rv hk (hy.key k1) vu
  rcases h2 with ⟨i, L, rfl, ik, l1, l2⟩ | ⟨b, L, _, rfl, rfl, ik, l1, l2⟩
  · have hl := l1.look i
    have fin : ∀ (y0 : V) (u0 : Value), RelV y0 u0 → Rep X.K F d y0 → ∃ z, RelV z ((valueAt L i).getD u0) ∧ Rep X.K F ((dlook kvs (.int i)).getD d) z := fun y0 u0 h1 h2 => by
      cases hd : dlook kvs (.int i) with
      | none => rw [hd] at hl; rw [hl]; exact ⟨y0, h1, h2⟩
      | some d0 => rw [hd] at hl; obtain ⟨w, z, e, r1, r2⟩ := hl; rw [e]; exact ⟨z, r2, r1⟩
    rcases hm with ⟨rfl, rfl⟩ | ⟨y2, u2, rfl, h1, h2⟩
    · obtain ⟨z, z1, z2⟩ := fin .non .none rfl .non
      exact call_meetsIn PySem.F.slot_dict_get l2.typeIs PySem.F.entry_dict_get (PySem.F.args_dict_get_2 _ _) (meets_dict_get (PySem.intKind X.prog X.w) a ik hd) ⟨_, l2.mapOf, z, H, I.tok _, z1, q z z2⟩
    · obtain ⟨z, z1, z2⟩ := fin y2 u2 h1 h2
      exact call_meetsIn PySem.F.slot_dict_get l2.typeIs PySem.F.entry_dict_get (PySem.F.args_dict_get_3 _ _ _) (meets_dict_get_default (PySem.intKind X.prog X.w) a ik hd u2) ⟨_, l2.mapOf, z, H, I.tok _, z1, q z z2⟩
  · have hl := l1.look k1
    have hroom : (nestedKind X.prog X.w).room X.A.in1 := units_in1 hu (by decide)
    have fin : ∀ (y0 : V) (u0 : Value), RelV y0 u0 → Rep X.K F d y0 → ∃ z, RelV z ((valueAt (pairsH L) (nkey k)).getD u0) ∧ Rep X.K F ((dlook kvs k).getD d) z := fun y0 u0 h1 h2 => by
      rw [valueAt_pairsH]
      cases hd : dlook kvs k with
      | none => rw [hd] at hl; rw [hl]; exact ⟨y0, h1, h2⟩
      | some d0 => rw [hd] at hl; obtain ⟨w, z, e, r1, r2⟩ := hl; rw [e]; exact ⟨z, r2, r1⟩
    rcases hm with ⟨rfl, rfl⟩ | ⟨y2, u2, rfl, h1, h2⟩
    · obtain ⟨z, z1, z2⟩ := fin .non .none rfl .non
      exact get_keyed hroom ik hd ⟨L, l2, rfl⟩ ⟨z, H, I.tok _, z1, q z z2⟩
    · obtain ⟨z, z1, z2⟩ := fin y2 u2 h1 h2
      exact getOr_keyed hroom ik hd ⟨L, l2, rfl⟩ ⟨z, H, I.tok _, z1, q z z2⟩
theorem dstore_small {kvs : List (D × D)} {k d : D} (h : kvs.length < big) : ((dstore kvs k d).map (·.1)).length ≤ sizeLine := by
  have := dstore_len kvs k d
  have hb := big_le
  rw [List.length_map]
  have : (dstore kvs k d).length ≤ big := by omega
  omega
/-- d[k] = v: the object is changed -/
theorem dct_setItem (hu : X.A.units + 64 < cLine) (I : Inv X pins σ H s) (sf : Same F H) {kvs : List (D × D)} {a : Addr} {k d : D} {y z : V} {u w : Value} {Q : Unit → Shared → Prop} {E : Value → Shared → Prop} (hx : Own X.K F H (.dict kvs) a) (nf : F a = none) (hy : Rep X.K F k y) (vu : RelV y u) (hz : Rep X.K F d z) (vw : RelV z w) (hk : kOk kvs k = true) (hl : kvs.length < big)
    (q : ∀ o s', Own X.K F (upd H a (.ext (objIs a o))) (.dict (dstore kvs k d)) a → Inv X pins σ (upd H a (.ext (objIs a o))) s' → Q () s') : wpAny (model X.prog X.w) X.A (setItem (.ref a) u w) Q E s := by
  obtain ⟨ks, vs, h, r, rv⟩ := hx
  obtain ⟨hd0, o0, eo, w0⟩ := id h
  have k1 : keyN 8 k = true := (Bool.and_eq_true .. ▸ hk : _ ∧ _).1
  have nd := dstore_nodup (kvs := kvs) (k := k) (v := d) (fun x hx => keyN_eqv 8 _ _ ((kOk_hom hk w0.hm).2 x hx).1 k1) w0.nd
  have hm := homK_store (v := d) hk w0.hm
  have sz := dstore_small (k := k) (d := d) hl
  obtain ⟨_, h2⟩ := dct_two I sf h r rv hk hy vu
  rcases h2 with ⟨i, L, rfl, ik, l1, l2⟩ | ⟨b, L, _, rfl, rfl, ik, l1, l2⟩
  · have hz2 : L.length ≤ sizeLine := by
      have e : kvs.length = L.length := Paired.length l1
      have hb := big_le
      omega
    refine wpAny_setItem_pairs (hsz := hz2) ik l2 fun h' dd hs => ?_
    obtain ⟨o, es, ep, ho, oc, od, ok, op, on⟩ := dd
    have st := l1.store (l1.nodup w0.nd) (i := i) hz vw
    obtain ⟨ks', vs', e1, e2, e3⟩ := int_ent st op (fun e he => ok e (by simpa using he))
    exact q o _ ⟨ks', vs', ⟨hd0, o, upd_same, ⟨oc, ⟨es, ep, od, e1⟩, nd, hm, sz⟩⟩, e2, e3⟩ (dct_write I eo ho hs)
  · have hz2 : L.length ≤ sizeLine := by
      have e : kvs.length = L.length := Paired.length l1
      have hb := big_le
      omega
    refine wpAny_setItem_heap (knd := nestedKind X.prog X.w) (hsz := hz2) (units_in1 hu (by decide)) ik l2 fun h' dd hs => ?_
    obtain ⟨o, es, ep, ho, oc, od, oe, _, on⟩ := dd
    have st := l1.store (l1.nodup w0.nd) k1 hy hz vw
    obtain ⟨ks', vs', e1, e2, e3⟩ := tup_ent (P := X.prog) (w := X.w) st
    rw [← oe] at e1
    exact q o _ ⟨ks', vs', ⟨hd0, o, upd_same, ⟨oc, ⟨es, ep, od, e1⟩, nd, hm, sz⟩⟩, e2, e3⟩ (dct_write I eo ho hs)
/-- an empty dict -/
theorem own_empty {K : PySem.W.Frag} {p : Addr} (hd : (p == sysModules) = false) : Own K F (upd H p (.ext (objIs p { cls := .type "dict", data := .dict #[] }))) (.dict []) p :=
  ⟨[], [], ⟨hd, _, upd_same, ⟨⟨rfl, rfl, rfl⟩, ⟨#[], 0, rfl, .nil⟩, List.nodup_nil, .inl (fun d hd => nomatch hd), Nat.zero_le _⟩⟩, .nil, .nil⟩
def tDNew (K : PySem.W.Frag) : TE := fun _ H Q => ∀ p ob, H p = none → (∀ F, Own K F (upd H p ob) (.dict []) p) → Q (.ref p) (upd H p ob)
theorem pe_dnewE {pos : Pos} : PE X (.Dict [] [] pos) (tDNew X.K) := ⟨fun pins s σ H Q I h => by
  have hn := I.hok.fresh (Nat.le_refl s.heap.objs.size)
  have hd : (s.heap.objs.size == sysModules) = false := beq_eq_false_iff_ne.mpr (Ne.symm (Nat.ne_of_lt I.big))
  have hg : (s.heap.push { cls := .type "dict", data := .dict #[] }).get? s.heap.objs.size = some { cls := .type "dict", data := .dict #[] } := Heap.get?_push_size _ rfl
  exact wpAny_Dict_empty ⟨.ref s.heap.objs.size, _, I.laid (a := s.heap.objs.size) (o := .ext (objIs s.heap.objs.size { cls := .type "dict", data := .dict #[] })) (t' := s.toks) (fun _ _ q => Heap.get?_push_of_some _ q) (Nat.le_refl _) ⟨hg, ⟨_, hg⟩, fun h1 h2 p k => k _ p⟩, rfl,
    h _ _ hn fun F => own_empty hd⟩⟩
end
end BT
namespace BT
open PySem PySem.Spec PyProof.Rows L2
section
variable {K : PySem.W.Frag} {F H : Hp}
theorem LstAt.same (s : Same F H) {a : Addr} {xs : List V} (h : LstAt K F a xs) : LstAt K H a xs := h.mono s
theorem rgOne (n : Int) (h : smallR n = true) : RgOk 0 n := by
  unfold smallR at h
  have := of_decide_eq_true h
  exact ⟨by omega, by omega, by omega, by omega, by omega⟩
end
section
variable {X : Cx}
def rB (K : PySem.W.Frag) (op : Operator) : R2 := fun x y H Q => ∃ F dx dy d, Same F H ∧ RepT K F H dx x ∧ RepT K F H dy y ∧ dbin op dx dy = some d ∧ OutV K F H d Q
theorem flat_len {α : Type} (k : Nat) (xs : List α) : (List.replicate k xs).flatten.length = k * xs.length := by
  induction k with
  | zero => simp
  | succ n ih => rw [List.replicate_succ, List.flatten_cons, List.length_append, ih, Nat.succ_mul, Nat.add_comm]
theorem rep_small {α : Type} {k : Int} {xs : List α} (h : 0 ≤ k ∧ k ≤ 1000 ∧ xs.length ≤ 1000) : (List.replicate k.toNat xs).flatten.length ≤ sizeLine := by
  rw [flat_len, sizeLine_eq]
  have a1 : k.toNat * xs.length ≤ 1000 * 1000 := Nat.mul_le_mul (by omega) h.2.2
  omega
open PySem.AutoSeq1 PySem.SeqAt in
theorem list_mul_any (l : Addr) (items : Array Value) (n : Nat) (dd : Option Addr) (sl : Array (Option Value)) (x : Int) (u : Tok) (hc0 : ¬(!Builtin.List.listFitsIndex x) = true) (hc1 : ¬items.size * x.toNat > (2 ^ 63 - 1) / 8) (hc2 : ¬Builtin.List.listTooLong (items.size * x.toNat) = true) :
    Meets (Builtin.«list.__mul__» ⟨[.ref l, .int x u], []⟩) (fun _ R s => s.heap.get? l = some { cls := .type "list", dict := dd, data := .seq items n, slots := sl } ∧
      R (.ok (.ret (Value.ref s.heap.objs.size))) { s with heap := s.heap.push { cls := Value.type "list", data := Data.seq (List.foldl (fun x1 x2 => x1 ++ x2) #[] (List.replicate (if items.isEmpty = true then 0 else x.toNat) items)) }, toks := s.toks }) :=
  .of_wp fun prog w A R s h => by
    obtain ⟨hp, g, d, tk, os⟩ := s
    obtain ⟨hl, h⟩ := h
    have hsz := PySem.AutoListH.joined_fits hc2
    wp_walk
    refine wpAny_ite_false (decide_eq_false (Nat.not_lt.mpr hsz)) ?_
    wp_walk
    exact ⟨_, rfl, h⟩
theorem int_rmul_any (a : Int) (t : Tok) (l : Addr) (items : Array Value) (n : Nat) (dd : Option Addr) (sl : Array (Option Value)) :
    Meets (Builtin.«int.__rmul__» ⟨[.int a t, .ref l], []⟩) (fun _ R s => s.heap.get? l = some { cls := .type "list", dict := dd, data := .seq items n, slots := sl } ∧ R (.ok (.ret Value.notImplemented)) s) :=
  .of_wp fun prog w A R s h => by
    obtain ⟨hp, g, d, tk, os⟩ := s
    obtain ⟨hl, h⟩ := h
    wp_walk
    exact ⟨_, rfl, h⟩
theorem op_mulL {a : Addr} {xs : List V} {k : Int} {t : Tok} {pins : List (Addr × Obj)} {s : Shared} {σ : L2.St} {H : Hp} {Q : VK} (I : Inv X pins σ H s) (ha : SqL X.K H a xs) (h : 0 ≤ k ∧ k ≤ 1000 ∧ xs.length ≤ 1000)
    (q : ∀ p, H p = none → Q (.ref p) (upd H p (.lst (List.replicate k.toNat xs).flatten))) : wpAny (model X.prog X.w) X.A (binaryOp .Mult (.ref a) (.int k t)) (EP X pins σ Q) X.xe s := by
  obtain ⟨its, r1, ⟨⟨cls, dd, data, sl⟩, n, ho, hc, hd, hs⟩, _⟩ := I.list ha
  simp only at hc hd hs
  subst hc hs
  have hz := rep_small h
  rw [flat_len] at hz
  have hlen : its.toArray.size * k.toNat ≤ sizeLine := by
    rw [List.size_toArray, ← r1.length, Nat.mul_comm]
    exact hz
  have hcap : ¬ its.toArray.size * k.toNat > (2 ^ 63 - 1) / 8 := by
    have : (sizeLine : Nat) ≤ (2 ^ 63 - 1) / 8 := by decide
    omega
  have hfit : ¬ (!Builtin.List.listFitsIndex k) = true := by
    rw [fitsIndex_both (by omega) (by omega)]
    exact Bool.false_ne_true
  have hlong : ¬ Builtin.List.listTooLong (its.toArray.size * k.toNat) = true := by
    rw [notLongL hlen]
    exact Bool.false_ne_true
  have hnew : List.foldl (fun x1 x2 => x1 ++ x2) #[] (List.replicate (if its.toArray.isEmpty = true then 0 else k.toNat) its.toArray) = (List.replicate k.toNat its).flatten.toArray := by
    rw [size_rep]
    cases its with
    | nil => simp
    | cons a r' => rw [if_neg (by simp)]
  refine wpAny_binaryOp_repeat_ref (T := "list") (U := "int") (by decide) ⟨_, ho, rfl⟩ (fun s' => typeIs_int s' k t) noFill_list_mul F.fills_int_mul F.slot_int_rmul repeat_list F.slot_int_index.lookup
    (call_meets F.slot_int_rmul (typeIs_int s k t) F.entry_int_rmul (F.args_int_rmul_2 _ _) (int_rmul_any k t a its.toArray n dd sl)
      ⟨ho, rfl, ⟨_, ho, rfl⟩, call_meets F.slot_list_mul ⟨_, ho, rfl⟩ F.entry_list_mul (F.args_list_mul_2 _ _) (list_mul_any a its.toArray n dd sl k t hfit hcap hlong) ⟨ho, ?_⟩⟩)
  rw [hnew]
  exact lstNew I (r1.rep k.toNat) (rep_small h) s.toks q
theorem tuple_mul1 (l : Addr) (items : Array Value) (n : Nat) (dd : Option Addr) (sl : Array (Option Value)) (u : Tok) :
    Meets (Builtin.«tuple.__mul__» ⟨[.ref l, .int 1 u], []⟩) (fun _ R s => s.heap.get? l = some { cls := .type "tuple", dict := dd, data := .seq items n, slots := sl } ∧ R (.ok (.ret (.ref l))) s) :=
  .of_wp fun prog w A R s h => by
    obtain ⟨hp, g, d, tk, os⟩ := s
    obtain ⟨hl, h⟩ := h
    have f1 := AutoSeq1.idx_int
    wp_walk using wpAny_loadPart' hl
    repeat (first
      | (refine wpAny_ite_false (decide_eq_false (by decide)) ?_; wp_walk using wpAny_loadPart' hl)
      | (refine wpAny_ite_true (decide_eq_true (by simp)) ?_; wp_walk using wpAny_loadPart' hl))
    all_goals first | exact ⟨_, rfl, h⟩ | exact h
theorem op_mulT1 {a : Addr} {xs : List V} {t : Tok} {pins : List (Addr × Obj)} {s : Shared} {σ : L2.St} {H : Hp} {Q : VK} (I : Inv X pins σ H s) (hT : SqT X.K H a xs)
    (q : Q (.ref a) H) : wpAny (model X.prog X.w) X.A (binaryOp .Mult (.ref a) (.int 1 t)) (EP X pins σ Q) X.xe s := by
  obtain ⟨its, r, ⟨⟨cls, dd, data, sl⟩, ho, hc, n, hd⟩, hs⟩ := I.tuple hT
  simp only at hc hd
  subst hc hd
  refine wpAny_binaryOp_repeat_ref (T := "tuple") (U := "int") (by decide) ⟨_, ho, rfl⟩ (fun s' => typeIs_int s' 1 t) noFill_tuple_mul F.fills_int_mul F.slot_int_rmul repeat_tuple F.slot_int_index.lookup
    (call_meets F.slot_int_rmul (typeIs_int s 1 t) F.entry_int_rmul (F.args_int_rmul_2 _ _) (int_rmul_tuple 1 t a its.toArray n dd sl)
      ⟨ho, rfl, ⟨_, ho, rfl⟩, call_meets F.slot_tuple_mul ⟨_, ho, rfl⟩ F.entry_tuple_mul (F.args_tuple_mul_2 _ _) (tuple_mul1 a its.toArray n dd sl t) ⟨ho, ?_⟩⟩)
  exact ⟨.ref a, H, I, rfl, q⟩
theorem op_mulT {a : Addr} {xs : List V} {k : Int} {t : Tok} {pins : List (Addr × Obj)} {s : Shared} {σ : L2.St} {H : Hp} {Q : VK} (I : Inv X pins σ H s) (hT : SqT X.K H a xs) (h : 2 ≤ k ∧ k ≤ 1000 ∧ xs.length ≤ 1000) (hne : xs ≠ [])
    (q : ∀ p o, H p = none → o.dict = none → o.cls = .type "tuple" → Q (.ref p) (upd H p (.frz o (.tup (List.replicate k.toNat xs).flatten)))) : wpAny (model X.prog X.w) X.A (binaryOp .Mult (.ref a) (.int k t)) (EP X pins σ Q) X.xe s := by
  obtain ⟨its, r, ⟨⟨cls, dd, data, sl⟩, ho, hc, n, hd⟩, hs⟩ := I.tuple hT
  simp only at hc hd
  subst hc hd
  have hle : its.length = xs.length := r.length.symm
  have hn : its ≠ [] := fun e => hne (by
    rw [e] at hle
    exact List.eq_nil_of_length_eq_zero hle.symm)
  have hi : its.toArray.isEmpty = false := by
    cases its with
    | nil => exact absurd rfl hn
    | cons a b => rfl
  have hsz0 : its.toArray.size = xs.length := by rw [List.size_toArray, hle]
  have hz := rep_small (xs := xs) (k := k) ⟨by omega, h.2⟩
  have hm : ((its.toArray.size : Nat) : Int) * k ≤ 1000000 := by
    rw [hsz0]
    have a1 : ((xs.length : Nat) : Int) * k ≤ 1000 * k := Int.mul_le_mul_of_nonneg_right (by omega) (by omega)
    omega
  have flen : (List.replicate k.toNat its).flatten.length ≤ sizeLine := by
    rw [flat_len, hle, ← flat_len]
    exact hz
  have c0 : (decide (k < -(2 ^ 63)) || decide (k ≥ 2 ^ 63)) = false := by
    rw [decide_eq_false (by omega), decide_eq_false (by omega)] <;> rfl
  have c1 : (its.toArray.isEmpty || k == 1) = false := by
    rw [hi, Bool.false_or]
    exact beq_eq_false_iff_ne.mpr (by omega)
  have c2 : (decide (k ≤ 0) || its.toArray.isEmpty) = false := by
    rw [hi, Bool.or_false]
    exact decide_eq_false (by omega)
  have c4 : Builtin.Tuple.tupleTooMany (((its.toArray.size : Nat) : Int) * k) = false := by
    unfold Builtin.Tuple.tupleTooMany
    rw [sizeLine_eq]
    exact decide_eq_false (by omega)
  refine wpAny_binaryOp_repeat_ref (T := "tuple") (U := "int") (by decide) ⟨_, ho, rfl⟩ (fun s' => typeIs_int s' k t) noFill_tuple_mul F.fills_int_mul F.slot_int_rmul repeat_tuple F.slot_int_index.lookup
    (call_meets F.slot_int_rmul (typeIs_int s k t) F.entry_int_rmul (F.args_int_rmul_2 _ _) (int_rmul_tuple k t a its.toArray n dd sl)
      ⟨ho, rfl, ⟨_, ho, rfl⟩, call_meets F.slot_tuple_mul ⟨_, ho, rfl⟩ F.entry_tuple_mul (F.args_tuple_mul_2 _ _) (tuple_mulW a its.toArray n dd sl k t c0 c1 c2 (by omega) c4 (by rw [size_rep, List.size_toArray]; exact flen)) ⟨ho, ?_⟩⟩)
  rw [size_rep]
  exact tupNew I (r.rep k.toNat) hz s.toks q
theorem dvOk_pos {j : Int} (h : dvOk j = true) : 0 < j := by
  unfold dvOk at h
  rw [Bool.and_eq_true] at h
  exact of_decide_eq_true h.1
theorem mulOk_ok {i j : Int} (h : mulOk i j = true) : IntMulOk i j := by
  unfold mulOk at h
  rw [Bool.or_eq_true, Bool.or_eq_true, Bool.and_eq_true] at h
  rcases h with (h | h) | ⟨h1, h2⟩
  · have := of_decide_eq_true h
    exact CMul.ok (.inl ⟨by omega, by omega⟩)
  · have := of_decide_eq_true h
    exact CMul.ok (.inr ⟨by omega, by omega⟩)
  · have h1 := of_decide_eq_true h1
    have h2 := of_decide_eq_true h2
    exact CMulW.ok (show i.natAbs.log2 + j.natAbs.log2 < 1000000 by omega)
theorem out_int {K : PySem.W.Frag} {F H : Hp} {i : Int} {Q : VK} (o : OutV K F H (.int i) Q) : Q (.int i) H := o.1 _ rfl (.int i)
theorem op_bin (op : Operator) : OpR X (binaryOp op) (rB X.K op) := by
  intro pins s σ H x y v u Q I rx ry h
  obtain ⟨F, dx, dy, d, sf, hx, hy, e, o⟩ := h
  cases op with
  | Add =>
    cases dx with
    | int i =>
      cases dy with
      | int j =>
        simp only [dbin, Option.some.injEq] at e
        subst e
        cases hx.int
        cases hy.int
        exact op_add pins s σ H _ _ _ _ Q I rx ry ⟨i, j, rfl, rfl, out_int o⟩
      | _ => cases e
    | list xs =>
      cases dy with
      | list ys =>
        simp only [dbin] at e
        split at e
        · rename_i hz
          cases e
          obtain ⟨a, vs, rfl, ha, ra⟩ := hx.list sf
          obtain ⟨b, ws, rfl, hb, rb⟩ := hy.list sf
          cases rx
          cases ry
          have hz : (xs ++ ys).length ≤ big := of_decide_eq_true hz
          rw [List.length_append, ← ra.length, ← rb.length] at hz
          have hz := Nat.le_trans hz big_le
          exact op_addL I ha.sq hb.sq hz fun p hp => o.2.1 p _ _ rfl hp (by rw [List.length_append]; exact hz) (ra.append rb)
        · cases e
      | _ => cases e
    | tuple xs =>
      cases dy with
      | tuple ys =>
        simp only [dbin] at e
        split at e
        · rename_i hz
          cases e
          obtain ⟨a, vs, rfl, ha, ra⟩ := hx.tuple
          obtain ⟨b, ws, rfl, hb, rb⟩ := hy.tuple
          have hz : (xs ++ ys).length ≤ big := of_decide_eq_true hz
          rw [List.length_append, ← ra.length, ← rb.length] at hz
          have hz := Nat.le_trans hz big_le
          cases rx
          cases ry
          obtain ⟨its, r1, p1, z1⟩ := I.tuple (ha.mono sf).sq
          obtain ⟨its2, r2, p2, z2⟩ := I.tuple (hb.mono sf).sq
          by_cases h1 : vs = []
          · subst h1
            cases ra
            cases r1
            exact cat_tup0 p1 p2 ⟨.ref b, H, I, rfl, o.1 _ rfl (.tup hb rb)⟩
          · have g1 : its ≠ [] := fun z => h1 (r1.nil_iff.mp z)
            refine HT.cat_tup p1 p2 g1 (fun z => ?_) (fun z => ?_) (by rw [← r1.length, ← r2.length]; exact hz)
            · have h2 := r2.nil_iff.mp z
              subst h2
              cases rb
              refine ⟨.ref a, H, I, rfl, o.1 _ rfl ?_⟩
              rw [List.append_nil]
              exact .tup ha ra
            · exact tupNew I (r1.append r2) (by rw [List.length_append]; exact hz) s.toks fun p ob hp hd hcl => o.2.2.1 p ob _ _ rfl hp (by rw [List.length_append]; exact hz) hd hcl (ra.append rb)
        · cases e
      | _ => cases e
    | _ => cases e
  | Sub =>
    cases dx with
    | int i =>
      cases dy with
      | int j =>
        simp only [dbin, Option.some.injEq] at e
        subst e
        cases hx.int
        cases hy.int
        exact op_sub pins s σ H _ _ _ _ Q I rx ry ⟨i, j, rfl, rfl, out_int o⟩
      | _ => cases e
    | _ => cases e
  | Mult =>
    cases dx with
    | int i =>
      cases dy with
      | int j =>
        simp only [dbin] at e
        split at e
        · rename_i hz
          cases e
          cases hx.int
          cases hy.int
          obtain ⟨t, rfl⟩ := rx
          obtain ⟨t', rfl⟩ := ry
          exact mul_int ⟨.int _, H, I.tok _, ⟨_, rfl⟩, out_int o⟩ (mulOk_ok hz)
        · cases e
      | _ => cases e
    | list xs =>
      cases dy with
      | int j =>
        simp only [dbin] at e
        split at e
        · rename_i hz
          cases e
          have hz := of_decide_eq_true hz
          obtain ⟨a, vs, rfl, ha, ra⟩ := hx.list sf
          cases hy.int
          cases rx
          obtain ⟨t', rfl⟩ := ry
          rw [← ra.length] at hz
          exact op_mulL I ha.sq hz fun p hp => o.2.1 p _ _ rfl hp (rep_small hz) (ra.rep _)
        · cases e
      | _ => cases e
    | tuple xs =>
      cases dy with
      | int j =>
        simp only [dbin] at e
        split at e
        · rename_i hz
          cases e
          have hz := of_decide_eq_true hz
          obtain ⟨a, vs, rfl, ha, ra⟩ := hx.tuple
          cases hy.int
          cases rx
          obtain ⟨t', rfl⟩ := ry
          rw [← ra.length] at hz
          by_cases h1 : j = 1
          · subst h1
            refine op_mulT1 I (ha.mono sf).sq (o.1 _ rfl ?_)
            have e1 : (List.replicate (1 : Int).toNat xs).flatten = xs := by simp
            rw [e1]
            exact .tup ha ra
          exact op_mulT I (ha.mono sf).sq ⟨by omega, hz.2.1, hz.2.2.1⟩ (fun z => hz.2.2.2 (by rw [z]; rfl)) fun p ob hp hd hcl => o.2.2.1 p ob _ _ rfl hp (rep_small ⟨by omega, hz.2.1, hz.2.2.1⟩) hd hcl (ra.rep _)
        · cases e
      | _ => cases e
    | _ => cases e
  | FloorDiv =>
    cases dx with
    | int i =>
      cases dy with
      | int j =>
        simp only [dbin] at e
        split at e
        · rename_i hz
          cases e
          cases hx.int
          cases hy.int
          have hp := dvOk_pos hz
          unfold dvOk at hz
          rw [Bool.and_eq_true, Bool.or_eq_true] at hz
          rcases hz.2 with h2 | h2
          · exact op_fdiv pins s σ H _ _ _ _ Q I rx ry ⟨i, j, rfl, rfl, ⟨hp, of_decide_eq_true h2⟩, out_int o⟩
          · exact op_fdivW pins s σ H _ _ _ _ Q I rx ry ⟨i, j, rfl, rfl, ⟨hp, of_decide_eq_true h2⟩, out_int o⟩
        · cases e
      | _ => cases e
    | _ => cases e
  | Mod =>
    cases dx with
    | int i =>
      cases dy with
      | int j =>
        simp only [dbin] at e
        split at e
        · rename_i hz
          cases e
          cases hx.int
          cases hy.int
          exact op_mod pins s σ H _ _ _ _ Q I rx ry ⟨i, j, rfl, rfl, of_decide_eq_true hz, out_int o⟩
        · cases e
      | _ => cases e
    | _ => cases e
  | Pow =>
    cases dx with
    | int i =>
      cases dy with
      | int j =>
        simp only [dbin] at e
        split at e
        · rename_i hz
          cases e
          cases hx.int
          cases hy.int
          have hz := of_decide_eq_true hz
          exact op_pow pins s σ H _ _ _ _ Q I rx ry ⟨i, j, rfl, rfl, ⟨hz.1, hz.2.1, hz.2.2⟩, out_int o⟩
        · cases e
      | _ => cases e
    | _ => cases e
  | _ => cases e

/-! ### comparisons -/
def rC (K : PySem.W.Frag) (op : CmpOp) : R2 := fun x y H Q => ∃ F dx dy b, Same F H ∧ RepT K F H dx x ∧ RepT K F H dy y ∧ dcmp op dx dy = some b ∧ Q (.bl b) H
theorem dp_list {K : PySem.W.Frag} {F H : Hp} {ds : List D} {v : V} (p : PyData.plainAll ds = true) (h : SqAt K F H ds v) (sf : Same F H) : Dp K H v (.list ds) ∨ Dp K H v (.tuple ds) := by
  cases h with
  | l h r => exact .inl (.lst h.sq ((r.mono sf).dp p))
  | t h r => exact .inr (.tup (h.mono sf).sq ((r.mono sf).dp p))
theorem in_any {pins : List (Addr × Obj)} {s : Shared} {σ : L2.St} {H F : Hp} {x y : V} {v u : Value} {Q : VK} (hu : X.A.units + 64 < cLine) (I : Inv X pins σ H s) (rx : RelV x v) (ry : RelV y u) {dx : D} {ds : List D}
    (sf : Same F H) (hx : RepT X.K F H dx x) (hy : SqAt X.K F H ds y) (ok : okIn dx ds = true) (neg : Bool) (q : Q (.bl (if neg = true then !ds.any fun d => PyData.eqv d dx else ds.any fun d => PyData.eqv d dx)) H) :
    wpAny (model X.prog X.w) X.A (compareOp (if neg = true then .NotIn else .In) v u) (EP X pins σ Q) X.xe s := by
  unfold okIn at ok
  simp only [Bool.and_eq_true, decide_eq_true_eq] at ok
  obtain ⟨⟨⟨p1, p2⟩, d1⟩, d2⟩ := ok
  obtain ⟨as, r1⟩ := Dp.reads I dx x v (hx.dp sf p1) rx
  have hu2 : X.A.units + 1 + min (PyData.depthAll ds) dx.depth < cLine := by omega
  rcases dp_list p2 hy sf with d | d
  · obtain ⟨bs, r2⟩ := Dp.reads I _ y u d ry
    cases neg with
    | true => exact PySem.SeqAt.notIn_list_data r2 r1 p2 p1 hu2 ⟨.bl _, H, I, rfl, q⟩
    | false => exact PySem.SeqAt.in_list_data r2 r1 p2 p1 hu2 ⟨.bl _, H, I, rfl, q⟩
  · obtain ⟨bs, r2⟩ := Dp.reads I _ y u d ry
    cases neg with
    | true => exact PySem.SeqAt.notIn_tuple_data r2 r1 p2 p1 hu2 ⟨.bl _, H, I, rfl, q⟩
    | false => exact PySem.SeqAt.in_tuple_data r2 r1 p2 p1 hu2 ⟨.bl _, H, I, rfl, q⟩
theorem str_one {c : Str} {a : Nat} (h : c.cps.toList = [a]) : c = ⟨#[a]⟩ := by
  obtain ⟨⟨l⟩⟩ := c
  simp only at h
  rw [h]
theorem din_str {x : D} {z : Str} {b : Bool} (h : din x (.str z) = some b) : ∃ c, x = .str ⟨#[c]⟩ ∧ (#[c] = #[c] ∧ b = decide (c ∈ z.cps.toList)) := by
  cases x with
  | str c =>
    simp only [din] at h
    split at h
    · rename_i a ha
      cases h
      exact ⟨a, by rw [str_one ha], rfl, rfl⟩
    · cases h
  | _ => simp [din] at h
theorem op_cmp (hu : X.A.units + 64 < cLine) (op : CmpOp) : OpR X (compareOp op) (rC X.K op) := by
  intro pins s σ H x y v u Q I rx ry h
  obtain ⟨F, dx, dy, b, sf, hx, hy, e, q⟩ := h
  cases op with
  | Eq =>
    simp only [dcmp] at e
    split at e
    · rename_i ok
      cases e
      unfold okEq at ok
      simp only [Bool.and_eq_true, decide_eq_true_eq] at ok
      obtain ⟨as, r1⟩ := Dp.reads I dx x v (hx.dp sf ok.1.1.1) rx
      obtain ⟨bs, r2⟩ := Dp.reads I dy y u (hy.dp sf ok.1.1.2) ry
      exact PySem.SeqAt.eq_plain r1 r2 ok.1.1.1 ok.1.1.2 (by omega) ⟨.bl _, H, I, rfl, q⟩
    · cases e
  | NotEq =>
    simp only [dcmp] at e
    split at e
    · rename_i ok
      cases e
      unfold okEq at ok
      simp only [Bool.and_eq_true, decide_eq_true_eq] at ok
      obtain ⟨as, r1⟩ := Dp.reads I dx x v (hx.dp sf ok.1.1.1) rx
      obtain ⟨bs, r2⟩ := Dp.reads I dy y u (hy.dp sf ok.1.1.2) ry
      exact PySem.SeqAt.ne_plain r1 r2 ok.1.1.1 ok.1.1.2 (by omega) ⟨.bl _, H, I, rfl, q⟩
    · cases e
  | Lt =>
    cases dx with
    | int i =>
      cases dy with
      | int j =>
        cases e
        cases hx.int
        cases hy.int
        exact op_lt pins s σ H _ _ _ _ Q I rx ry ⟨i, j, rfl, rfl, q⟩
      | _ => cases e
    | _ => cases e
  | LtE =>
    cases dx with
    | int i =>
      cases dy with
      | int j =>
        cases e
        cases hx.int
        cases hy.int
        exact op_le pins s σ H _ _ _ _ Q I rx ry ⟨i, j, rfl, rfl, q⟩
      | _ => cases e
    | _ => cases e
  | Gt =>
    cases dx with
    | int i =>
      cases dy with
      | int j =>
        cases e
        cases hx.int
        cases hy.int
        exact op_gt pins s σ H _ _ _ _ Q I rx ry ⟨i, j, rfl, rfl, q⟩
      | _ => cases e
    | _ => cases e
  | GtE =>
    cases dx with
    | int i =>
      cases dy with
      | int j =>
        cases e
        cases hx.int
        cases hy.int
        exact op_ge pins s σ H _ _ _ _ Q I rx ry ⟨i, j, rfl, rfl, q⟩
      | _ => cases e
    | _ => cases e
  | In =>
    have e : din dx dy = some b := e
    cases dy with
    | list ds =>
      simp only [din] at e
      split at e
      · rename_i ok; cases e; exact in_any hu I rx ry sf hx (hy.sq sf rfl) ok false q
      · cases e
    | tuple ds =>
      simp only [din] at e
      split at e
      · rename_i ok; cases e; exact in_any hu I rx ry sf hx (hy.sq sf rfl) ok false q
      · cases e
    | dict kvs =>
      simp only [din] at e
      split at e
      · rename_i ok; cases e; exact dct_in hu I sf hy ry hx rx ok false q
      · cases e
    | str z =>
      obtain ⟨c, rfl, _, rfl⟩ := din_str e
      cases hy.str
      cases hx.str
      exact op_in_sign pins s σ H _ _ _ _ Q I rx ry ⟨c, z, rfl, rfl, q⟩
    | _ => cases e
  | NotIn =>
    have e0 : (din dx dy).map (fun b => !b) = some b := e
    clear e
    obtain ⟨b', e, rfl⟩ := Option.map_eq_some_iff.mp e0
    clear e0
    cases dy with
    | list ds =>
      simp only [din] at e
      split at e
      · rename_i ok; cases e; exact in_any hu I rx ry sf hx (hy.sq sf rfl) ok true q
      · cases e
    | tuple ds =>
      simp only [din] at e
      split at e
      · rename_i ok; cases e; exact in_any hu I rx ry sf hx (hy.sq sf rfl) ok true q
      · cases e
    | dict kvs =>
      simp only [din] at e
      split at e
      · rename_i ok; cases e; exact dct_in hu I sf hy ry hx rx ok true q
      · cases e
    | str z =>
      obtain ⟨c, rfl, _, rfl⟩ := din_str e
      cases hy.str
      cases hx.str
      exact op_notIn_sign pins s σ H _ _ _ _ Q I rx ry ⟨c, z, rfl, rfl, q⟩
    | _ => cases e
  | Is =>
    cases dx with
    | bool i =>
      cases dy with
      | bool j =>
        cases e
        cases hx.bl
        cases hy.bl
        cases rx
        cases ry
        cases i <;> cases j <;> exact wpAny_pure ⟨.bl _, H, I, rfl, q⟩
      | _ => cases e
    | _ => cases e
  | IsNot =>
    cases dx with
    | bool i =>
      cases dy with
      | bool j =>
        cases e
        cases hx.bl
        cases hy.bl
        cases rx
        cases ry
        cases i <;> cases j <;> exact wpAny_pure ⟨.bl _, H, I, rfl, q⟩
      | _ => cases e
    | _ => cases e
end
end BT
namespace BT
open PySem PySem.Spec PyProof.Rows L2
section
variable {prog : Program} {w : World} {A : Around} {E : Value → Shared → Prop} {s : Shared}
theorem collect_tup {l : Addr} {vs : List Value} {Q : List Value → Shared → Prop} (hl : s.heap.IsTuple l vs.toArray)
    (h : Q vs { s with heap := (s.heap.push (seqObj "list" #[] 0)).update s.heap.objs.size (Obj.mapSeq (· ++ vs.toArray)) }) (hsz : vs.length ≤ sizeLine) :
    wpAny (model prog w) A (collect (.ref l)) Q E s := by
  obtain ⟨o, ho, hc, n, hd⟩ := id hl
  have ho' : (s.heap.push (seqObj "list" #[] 0)).get? l = some o := Heap.get?_push_of_some _ ho
  unfold collect
  refine wpAny_bind (wpAny_runValue (codeAny_builtin entry_proto_collect' (wpAny_bind (wpAny_newList (wpAny_pure ⟨Code.quiet_builtin _ (by decide +kernel), codeAny_builtin entry_list_iadd' ?_⟩)))))
  show wpAny _ _ (Builtin.List.listExtendWith (.ref s.heap.objs.size) (.ref l) (.ref s.heap.objs.size)) _ _ { s with heap := s.heap.push (seqObj "list" #[] 0) }
  unfold Builtin.List.listExtendWith
  refine wpAny_bind (wpAny_typeOf (T := "tuple") ⟨o, ho', hc⟩ ?_)
  rw [if_pos (by rw [show (Value.type "tuple" == Value.type "tuple") = true from rfl]; simp)]
  refine wpAny_bind (listItems_at ho' hd (wpAny_bind (listItems_at (xs := #[]) (n := 0) (Heap.get?_push_size _ rfl) rfl ?_)))
  rw [if_neg (by simp)]
  refine wpAny_bind (listUpdate_at (xs := #[]) (n := 0) (Heap.get?_push_size _ rfl) rfl (wpAny_pure ?_) (Nat.zero_le _) (by show (#[] ++ vs.toArray).size ≤ sizeLine + 1; simp only [Array.size_append, List.size_toArray, List.length_nil]; omega))
  refine wpAny_bind (wpAny_load (get?_update_seq (Heap.get?_push_size _ rfl) _) ?_)
  show wpAny _ _ (pure ((#[] : Array Value) ++ vs.toArray).toList) Q E _
  rw [show ((#[] : Array Value) ++ vs.toArray).toList = vs by simp]
  exact wpAny_pure h
open SrtO in
theorem sorted_tup {l : Addr} {vs : List Value} {ltv : Value → Value → Bool} {Q : Value → Shared → Prop} (O : Swo ltv) (hl : s.heap.IsTuple l vs.toArray) (hz : vs.length ≤ sizeLine)
    (hS : 2 ≤ vs.length → ∀ (h₁ : Heap) (a : Addr), h₁.get? a = some (seqObj "list" vs.toArray 0) → SortableO prog w A.in1.in1 { s with heap := h₁ } a vs ltv)
    (h : ∀ out : List Value, Srtd ltv out → Stb ltv out vs → Q (.ref (s.heap.objs.size + 1)) { s with heap := sortedAll s.heap vs out.toArray }) :
    wpAny (model prog w) A (call (.builtin "sorted") [.ref l]) Q E s := by
  refine Calls.call_function_entry kind_sorted plain_sorted entry_sorted (args_sorted1 _) ?_
  unfold Builtin.«sorted»
  refine wpAny_bind (m := checkCount "sorted" 1 1 _) (wpAny_pure (wpAny_bind (collect_tup hl (wpAny_bind (wpAny_newList ?_ hz)) hz)))
  have hsz : ((s.heap.push (seqObj "list" #[] 0)).update s.heap.objs.size (Obj.mapSeq (· ++ vs.toArray))).objs.size = s.heap.objs.size + 1 := by
    rw [Heap.size_update, size_push']
  have hoL : (((s.heap.push (seqObj "list" #[] 0)).update s.heap.objs.size (Obj.mapSeq (· ++ vs.toArray))).push (seqObj "list" vs.toArray 0)).get? (s.heap.objs.size + 1) = some (seqObj "list" vs.toArray 0) := by
    rw [← hsz]
    exact Heap.get?_push_size _ rfl
  show wpAny _ _ _ _ _ { s with heap := ((s.heap.push (seqObj "list" #[] 0)).update s.heap.objs.size (Obj.mapSeq (· ++ vs.toArray))).push (seqObj "list" vs.toArray 0) }
  rw [hsz]
  exact wpAny_bind (wpAny_holding (wpAny_call_entry slot_list_sort ⟨_, hoL, rfl⟩ entry_list_sort (list_sort_ord O hoL hz (fun h2 => hS h2 _ _ hoL) fun out hs hb => ⟨_, rfl, wpAny_pure ⟨_, rfl, h out hs hb⟩⟩) (args_list_sort _)))
end
theorem sorted_unique : ∀ {a b : List Int}, a.Perm b → a.Pairwise (· ≤ ·) → b.Pairwise (· ≤ ·) → a = b := fun p h1 h2 =>
  List.Perm.eq_of_pairwise (fun x y _ _ h h' => Int.le_antisymm h h') h1 h2 p
theorem sortI_perm (ns : List Int) : (sortI ns).Perm ns := List.mergeSort_perm _ _
theorem sortI_sorted (ns : List Int) : (sortI ns).Pairwise (· ≤ ·) :=
  (List.pairwise_mergeSort (le := fun a b : Int => decide (a ≤ b)) (fun a b c h1 h2 => by
    simp only [decide_eq_true_eq] at *
    omega) (fun a b => by
    simp only [Bool.or_eq_true, decide_eq_true_eq]
    omega) ns).imp fun h => of_decide_eq_true h
theorem sortI_of {a ns : List Int} (p : a.Perm ns) (h : a.Pairwise (· ≤ ·)) : a = sortI ns := sorted_unique (p.trans (sortI_perm ns).symm) h (sortI_sorted ns)
theorem foldl_min : ∀ (xs : List Int) (x : Int), xs.foldl (fun a b => if b < a then b else a) x ∈ x :: xs ∧ ∀ y ∈ x :: xs, xs.foldl (fun a b => if b < a then b else a) x ≤ y
  | [], x => ⟨List.mem_cons_self, fun y h => by simp at h; subst h; exact Int.le_refl _⟩
  | y :: ys, x => by
    rw [List.foldl_cons]
    have a1 : (if y < x then y else x) ≤ x := by split <;> omega
    have a2 : (if y < x then y else x) ≤ y := by split <;> omega
    have a3 : (if y < x then y else x) ∈ x :: y :: ys := by split <;> simp
    generalize (if y < x then y else x) = m at a1 a2 a3
    obtain ⟨h1, h2⟩ := foldl_min ys m
    have h3 := h2 _ List.mem_cons_self
    refine ⟨?_, fun z hz => ?_⟩
    · rcases List.mem_cons.mp h1 with e | h1
      · rw [e]; exact a3
      · exact List.mem_cons_of_mem _ (List.mem_cons_of_mem _ h1)
    · rcases List.mem_cons.mp hz with rfl | hz
      · exact Int.le_trans h3 a1
      · rcases List.mem_cons.mp hz with rfl | hz
        · exact Int.le_trans h3 a2
        · exact h2 z (List.mem_cons_of_mem _ hz)
theorem foldl_max : ∀ (xs : List Int) (x : Int), xs.foldl (fun a b => if b > a then b else a) x ∈ x :: xs ∧ ∀ y ∈ x :: xs, y ≤ xs.foldl (fun a b => if b > a then b else a) x
  | [], x => ⟨List.mem_cons_self, fun y h => by simp at h; subst h; exact Int.le_refl _⟩
  | y :: ys, x => by
    rw [List.foldl_cons]
    have a1 : x ≤ (if y > x then y else x) := by split <;> omega
    have a2 : y ≤ (if y > x then y else x) := by split <;> omega
    have a3 : (if y > x then y else x) ∈ x :: y :: ys := by split <;> simp
    generalize (if y > x then y else x) = m at a1 a2 a3
    obtain ⟨h1, h2⟩ := foldl_max ys m
    have h3 := h2 _ List.mem_cons_self
    refine ⟨?_, fun z hz => ?_⟩
    · rcases List.mem_cons.mp h1 with e | h1
      · rw [e]; exact a3
      · exact List.mem_cons_of_mem _ (List.mem_cons_of_mem _ h1)
    · rcases List.mem_cons.mp hz with rfl | hz
      · exact Int.le_trans a1 h3
      · rcases List.mem_cons.mp hz with rfl | hz
        · exact Int.le_trans a2 h3
        · exact h2 z (List.mem_cons_of_mem _ hz)
theorem minI_of {ns : List Int} {i m : Int} (h : minI ns = some i) (h1 : m ∈ ns) (h2 : ∀ y ∈ ns, m ≤ y) : m = i := by
  cases ns with
  | nil => cases h
  | cons x xs =>
    obtain ⟨g1, g2⟩ := foldl_min xs x
    have e : xs.foldl (fun a b => if b < a then b else a) x = i := Option.some.inj h
    rw [e] at g1 g2
    exact Int.le_antisymm (h2 _ g1) (g2 _ h1)
theorem maxI_of {ns : List Int} {i m : Int} (h : maxI ns = some i) (h1 : m ∈ ns) (h2 : ∀ y ∈ ns, y ≤ m) : m = i := by
  cases ns with
  | nil => cases h
  | cons x xs =>
    obtain ⟨g1, g2⟩ := foldl_max xs x
    have e : xs.foldl (fun a b => if b > a then b else a) x = i := Option.some.inj h
    rw [e] at g1 g2
    exact Int.le_antisymm (g2 _ h1) (h2 _ g1)
section
variable {X : Cx}
/-! ### built-in functions of one argument -/
def rPr (K : PySem.W.Frag) (p : Pr) : List V → Hp → VK → Prop := fun vs H Q => ∃ F dx v d, vs = [v] ∧ Same F H ∧ RepT K F H dx v ∧ dpr p dx = some d ∧ OutV K F H d Q
theorem map_none {α β : Type} {o : Option α} {f : α → β} {b : β} (h : o.map f = some b) : ∃ a, o = some a ∧ f a = b := by
  cases o with
  | none => cases h
  | some a => exact ⟨a, rfl, Option.some.inj h⟩
theorem bind_none {α β : Type} {o : Option α} {f : α → Option β} {b : β} (h : o.bind f = some b) : ∃ a, o = some a ∧ f a = some b := by
  cases o with
  | none => cases h
  | some a => exact ⟨a, rfl, h⟩
theorem pr_len : CallR X (.builtin "len") (rPr X.K .len) := by
  intro pins s σ H xs us Q I r h
  obtain ⟨F, dx, v, d, rfl, sf, hx, e, o⟩ := h
  cases dx with
  | list ds =>
    obtain ⟨a, vs, rfl, ha, ra⟩ := hx.list sf
    cases e
    refine call_len_seq pins s σ H _ us Q I r ⟨a, vs, rfl, .inl ha.sq, ?_⟩
    rw [ra.length]
    exact out_int o
  | tuple ds =>
    obtain ⟨a, vs, rfl, ha, ra⟩ := hx.tuple
    cases e
    refine call_len_seq pins s σ H _ us Q I r ⟨a, vs, rfl, .inr (ha.mono sf).sq, ?_⟩
    rw [ra.length]
    exact out_int o
  | str z =>
    cases hx.str
    simp only [dpr] at e
    split at e
    · rename_i hz
      cases e
      exact call_len_str pins s σ H _ us Q I r ⟨z, rfl, by rw [sizeLine_eq]; have := of_decide_eq_true hz; omega, out_int o⟩
    · cases e
  | _ => cases e
theorem pr_abs : CallR X (.builtin "abs") (rPr X.K .abs) := by
  intro pins s σ H xs us Q I r h
  obtain ⟨F, dx, v, d, rfl, sf, hx, e, o⟩ := h
  cases dx with
  | int i =>
    cases hx.int
    cases e
    exact call_abs pins s σ H _ us Q I r ⟨i, rfl, out_int o⟩
  | _ => cases e
theorem pr_int : CallR X (.type "int") (rPr X.K .int) := by
  intro pins s σ H xs us Q I r h
  obtain ⟨F, dx, v, d, rfl, sf, hx, e, o⟩ := h
  cases dx with
  | int i =>
    cases hx.int
    cases e
    exact call_int1 pins s σ H _ us Q I r (.inl ⟨i, rfl, out_int o⟩)
  | bool b =>
    cases hx.bl
    cases e
    exact call_int1 pins s σ H _ us Q I r (.inr ⟨b, rfl, out_int o⟩)
  | _ => cases e
theorem pr_sum (hc : X.calm = true) : CallR X (.builtin "sum") (rPr X.K .sum) := by
  intro pins s σ H xs us Q I r h
  obtain ⟨F, dx, v, d, rfl, sf, hx, e, o⟩ := h
  cases dx with
  | list ds =>
    obtain ⟨ns, e1, rfl⟩ := map_none e
    obtain ⟨a, vs, rfl, ha, ra⟩ := hx.list sf
    rw [ints?_eq e1] at ra
    rw [ra.ofInts] at ha
    exact cr_sum hc pins s σ H _ us Q I r ⟨a, ns, rfl, ha.sq, out_int o⟩
  | _ => cases e
theorem pr_all (hc : X.calm = true) : CallR X (.builtin "all") (rPr X.K .all) := by
  intro pins s σ H xs us Q I r h
  obtain ⟨F, dx, v, d, rfl, sf, hx, e, o⟩ := h
  cases dx with
  | list ds =>
    obtain ⟨ns, e1, rfl⟩ := map_none e
    obtain ⟨a, vs, rfl, ha, ra⟩ := hx.list sf
    rw [bools?_eq e1] at ra
    rw [ra.ofBools] at ha
    exact cr_all hc pins s σ H _ us Q I r ⟨a, ns, rfl, ha.sq, o.1 _ rfl (.bl _)⟩
  | _ => cases e
theorem pr_any (hc : X.calm = true) : CallR X (.builtin "any") (rPr X.K .any) := by
  intro pins s σ H xs us Q I r h
  obtain ⟨F, dx, v, d, rfl, sf, hx, e, o⟩ := h
  cases dx with
  | list ds =>
    obtain ⟨ns, e1, rfl⟩ := map_none e
    obtain ⟨a, vs, rfl, ha, ra⟩ := hx.list sf
    rw [bools?_eq e1] at ra
    rw [ra.ofBools] at ha
    exact cr_any hc pins s σ H _ us Q I r ⟨a, ns, rfl, ha.sq, o.1 _ rfl (.bl _)⟩
  | _ => cases e
theorem pos_of_min {ns : List Int} {i : Int} (h : minI ns = some i) : 0 < ns.length := by
  cases ns with
  | nil => cases h
  | cons x xs => simp
theorem pos_of_max {ns : List Int} {i : Int} (h : maxI ns = some i) : 0 < ns.length := by
  cases ns with
  | nil => cases h
  | cons x xs => simp
theorem canle_units {A : Around} {n : Nat} (h : A.units + 64 < cLine) (hn : n ≤ 20) : A.units + 2 + n < cLine := by omega
theorem ordOk_of {xs : List D} (h : ordOk xs = true) : (∀ x ∈ xs, ∀ y ∈ xs, PySem.W.alike x y = true) ∧ ((∀ x ∈ xs, isTup1 x = true) ∨ ∀ x ∈ xs, isStrD x = true) ∧ PyData.plainAll xs = true ∧ PyData.depthAll xs ≤ 20 := by
  unfold ordOk at h
  simp only [Bool.and_eq_true, Bool.or_eq_true, List.all_eq_true, decide_eq_true_eq] at h
  exact ⟨h.1.1.1, h.1.1.2, h.1.2, h.2⟩
theorem ord_ne {xs : List D} (h : ordOk xs = true) : ∀ x ∈ xs, x ≠ .none := fun x hx e => by
  subst e
  rcases (ordOk_of h).2.1 with h | h
  · exact Bool.noConfusion (h _ hx)
  · exact Bool.noConfusion (h _ hx)
theorem Vals.get {vs : List V} {us : List Value} (h : Vals vs us) : ∀ {i : Nat} {u : Value}, us[i]? = some u → ∃ v, vs[i]? = some v ∧ RelV v u := by
  induction h with
  | nil => intro i u e; simp at e
  | cons h r ih =>
    intro i u e
    cases i with
    | zero => simp at e; subst e; exact ⟨_, rfl, h⟩
    | succ i => exact ih (by simpa using e)
theorem pr_min (hc : X.calm = true) (hu : X.A.units + 64 < cLine) : CallR X (.builtin "min") (rPr X.K .min) := by
  intro pins s σ H xs us Q I r h
  obtain ⟨F, dx, v, d, rfl, sf, hx, e, o⟩ := h
  cases dx with
  | list ds =>
    obtain ⟨a, vs, rfl, ha, ra⟩ := hx.list sf
    simp only [dpr] at e
    cases e1 : ints? ds with
    | some ns =>
      rw [e1] at e
      obtain ⟨i, e3, rfl⟩ := map_none e
      rw [ints?_eq e1] at ra
      rw [ra.ofInts] at ha
      exact cr_min hc pins s σ H _ us Q I r ⟨a, ns, rfl, ha.sq, pos_of_min e3, fun m h1 h2 => by rw [minI_of e3 h1 h2]; exact out_int o⟩
    | none =>
      rw [e1] at e
      cases ds with
      | nil => cases e1
      | cons y ys =>
        simp only [minQ, minDD] at e
        split at e
        · rename_i ok
          cases e
          obtain ⟨k1, k2, k3, k4⟩ := ordOk_of ok
          obtain ⟨its, rv, hl, _⟩ := I.list ha.sq
          rw [Vals.ref1 r]
          obtain ⟨as, hr⟩ := Dp.readsAll I _ vs its ((ra.mono sf).dp k3) rv
          refine PySem.W.min_list_data (I.ok.hd hc) hl.isList (by simpa using hr) ⟨k1, ord_ne ok⟩ (by omega) fun i v h' tk bs hv hrd hk => ?_
          obtain ⟨u, hu1, hu2⟩ := Vals.get rv (show its[i]? = some v by simpa using hv)
          obtain ⟨di, hd1, hd2⟩ := ra.getV hu1
          have hdm : di ∈ y :: ys := List.mem_of_getElem? hd1
          have hp : PyData.plain di = true := by
            have : ∀ l : List D, PyData.plainAll l = true → ∀ z ∈ l, PyData.plain z = true := fun l => by
              induction l with
              | nil => intro _ z hz; cases hz
              | cons w l ih =>
                intro h z hz
                simp only [PyData.plainAll, Bool.and_eq_true] at h
                rcases List.mem_cons.mp hz with rfl | hz
                · exact h.1
                · exact ih h.2 z hz
            exact this _ k3 di hdm
          obtain ⟨as2, r2⟩ := Dp.reads I di u v ((hd2.mono sf).dp hp) hu2
          have e5 := (PySem.Reads.unique (PySem.W.reads_keeps hk r2) _ _ hrd).1
          have hil : isL di = false := by
            rcases k2 with k2 | k2
            · have := k2 di hdm; cases di <;> first | rfl | exact Bool.noConfusion this
            · have := k2 di hdm; cases di <;> first | rfl | exact Bool.noConfusion this
          rw [e5] at hil hd2
          refine ⟨u, H, I.kept hk, hu2, ?_⟩
          exact o.1 u hil hd2
        · cases e
  | _ => cases e
theorem foldl_maxI (xs : List Int) : ∀ x : Int, xs.foldl (fun a b => if b > a then b else a) x = xs.foldl max x := by
  induction xs with
  | nil => intro x; rfl
  | cons y ys ih =>
    intro x
    rw [List.foldl_cons, List.foldl_cons, ih]
    congr 1
    split <;> omega
theorem pr_max (hc : X.calm = true) (hu : X.A.units + 64 < cLine) : CallR X (.builtin "max") (rPr X.K .max) := by
  intro pins s σ H xs us Q I r h
  obtain ⟨F, dx, v, d, rfl, sf, hx, e, o⟩ := h
  obtain ⟨ds, e0, e⟩ := bind_none e
  obtain ⟨ns, e1, e2⟩ := bind_none e
  obtain ⟨i, e3, rfl⟩ := map_none e2
  cases hx.sq sf e0 with
  | l ha ra =>
    rw [ints?_eq e1] at ra
    rw [ra.ofInts] at ha
    exact cr_max hc pins s σ H _ us Q I r ⟨_, ns, rfl, ha.sq, pos_of_max e3, fun m h1 h2 => by rw [maxI_of e3 h1 h2]; exact out_int o⟩
  | t ha ra =>
    cases ns with
    | nil => cases e3
    | cons n ns =>
      rw [ints?_eq e1] at ra
      have pl : ∀ l : List Int, PyData.plainAll (l.map PyData.int) = true := fun l => by
        induction l with
        | nil => rfl
        | cons z l ih => rw [List.map_cons, PyData.plainAll, ih]; rfl
      have dl : ∀ l : List Int, PyData.depthAll (l.map PyData.int) ≤ 1 := fun l => by
        induction l with
        | nil => simp [PyData.depthAll]
        | cons z l ih => rw [List.map_cons, PyData.depthAll]; simp [PyData.depth]; omega
      obtain ⟨its, rv, hl, _⟩ := I.tuple (ha.mono sf).sq
      rw [Vals.ref1 r]
      obtain ⟨as, hr⟩ := Dp.readsAll I _ _ its ((ra.mono sf).dp (pl (n :: ns))) rv
      have al : PySem.W.AlikeAll ((n :: ns).map PyData.int) := ⟨fun x hx y hy => by
        obtain ⟨a, _, rfl⟩ := List.mem_map.mp hx
        obtain ⟨b, _, rfl⟩ := List.mem_map.mp hy
        rfl, fun x hx => by
        obtain ⟨a, _, rfl⟩ := List.mem_map.mp hx
        exact nofun⟩
      have hd := dl (n :: ns)
      rw [List.map_cons] at hr al hd
      refine PySem.W.max_tuple_data (I.ok.hd hc) hl (by simpa using hr) al (by omega) fun i' v h' tk bs hv hrd hk => ?_
      have e5 : i = ns.foldl max n := by
        have : ns.foldl (fun a b => if b > a then b else a) n = i := Option.some.inj e3
        rw [← this, foldl_maxI]
      rw [PySem.W.maxD_ints, ← e5] at hrd
      cases hrd
      exact ⟨.int i, H, I.kept hk, ⟨_, rfl⟩, out_int o⟩
theorem zip_fst {α β : Type} : ∀ {l : List α} {m : List β}, l.length = m.length → (l.zip m).map Prod.fst = l
  | [], _, _ => rfl
  | _ :: _, [], h => by cases h
  | x :: l, y :: m, h => by rw [List.zip_cons_cons, List.map_cons, zip_fst (by simpa using h)]
theorem zip_snd {α β : Type} : ∀ {l : List α} {m : List β}, l.length = m.length → (l.zip m).map Prod.snd = m
  | [], [], _ => rfl
  | [], _ :: _, h => by cases h
  | _ :: _, [], h => by cases h
  | x :: l, y :: m, h => by rw [List.zip_cons_cons, List.map_cons, zip_snd (by simpa using h)]
theorem each_zip {S : V → Value → Prop} : ∀ {vs : List V} {us : List Value} {ds : List D}, Vals vs us → ds.length = vs.length → (∀ v u, RelV v u → S v u) → PySem.W.EachIs (fun (u : Value) (b : D × V) => S b.2 u) us (ds.zip vs)
  | _, _, [], .nil, _, _ => .nil
  | _, _, _ :: _, .nil, h, _ => by cases h
  | _, _, [], .cons _ _, h, _ => by cases h
  | _, _, _ :: _, .cons r rs, h, q => .cons (q _ _ r) (each_zip rs (by simpa using h) q)
theorem each_reads {h : Heap} : ∀ {vs : List V} {us : List Value} {ds : List D} {as : List Addr}, ds.length = vs.length → ReadsAll h us ds as → PySem.W.EachIs (fun (u : Value) (b : D × V) => ∃ as, Reads h u b.1 as) us (ds.zip vs)
  | [], _, [], _, _, .nil => .nil
  | [], _, _ :: _, _, h, _ => by cases h
  | _ :: _, _, [], _, h, _ => by cases h
  | _ :: _, _, _ :: _, _, h, .cons r rs => .cons ⟨_, r⟩ (each_reads (by simpa using h) rs)
theorem Reps.zipped {K : PySem.W.Frag} {F : Hp} : ∀ {ds : List D} {vs : List V}, Reps K F ds vs → ∀ p ∈ ds.zip vs, Rep K F p.1 p.2
  | _, _, .nil, p, h => by simp at h
  | _, _, .cons h r, p, hp => by
    rw [List.zip_cons_cons] at hp
    rcases List.mem_cons.mp hp with rfl | hp
    · exact h
    · exact Reps.zipped r p hp
theorem Reps.of_pairs {K : PySem.W.Frag} {F : Hp} : ∀ {l : List (D × V)}, (∀ p ∈ l, Rep K F p.1 p.2) → Reps K F (l.map Prod.fst) (l.map Prod.snd)
  | [], _ => .nil
  | p :: l, h => .cons (h p List.mem_cons_self) (Reps.of_pairs fun q hq => h q (List.mem_cons_of_mem _ hq))
theorem vals_each : ∀ {us : List Value} {l : List (D × V)}, PySem.W.EachIs (fun (u : Value) (b : D × V) => RelV b.2 u) us l → Vals (l.map Prod.snd) us
  | _, _, .nil => .nil
  | _, _, .cons h r => .cons h (vals_each r)
theorem sort_fst (l : List (D × V)) : (l.mergeSort (PySem.W.dataLe false Prod.fst)).map Prod.fst = (l.map Prod.fst).mergeSort dleD := by
  refine (List.map_mergeSort fun a _ b _ => ?_)
  rfl
theorem depth_mem : ∀ {l : List D} {z : D}, z ∈ l → z.depth ≤ PyData.depthAll l
  | w :: l, z, h => by
    simp only [PyData.depthAll]
    rcases List.mem_cons.mp h with rfl | h
    · exact Nat.le_max_left _ _
    · exact Nat.le_trans (depth_mem h) (Nat.le_max_right _ _)
theorem sorted_data_l (hu : X.A.units + 64 < cLine) {pins : List (Addr × Obj)} {s : Shared} {σ : L2.St} {H F : Hp} {Q : VK} {dx : D} {v : V} {us : List Value} {ds : List D} (I : Inv X pins σ H s) (r : Vals [v] us) (sf : Same F H) (hx : RepT X.K F H dx v) (e0 : items? dx = some ds) (ok0 : isLst dx = true) (ok1 : ordOk ds = true) (ok2 : ds.length ≤ 1000000) (o : OutV X.K F H (.list (ds.mergeSort dleD)) Q) :
    wpAny (model X.prog X.w) X.A (call (.builtin "sorted") us) (EP X pins σ Q) X.xe s := by
  cases dx with
  | list ds' =>
    cases e0
    obtain ⟨a, vs, rfl, ha, ra⟩ := hx.list sf
    obtain ⟨k1, k2, k3, k4⟩ := ordOk_of ok1
    obtain ⟨its, rv, hl, hz⟩ := I.list ha.sq
    rw [Vals.ref1 r]
    obtain ⟨as, hr⟩ := Dp.readsAll I _ vs its ((ra.mono sf).dp k3) rv
    have hlen : ds.length = vs.length := ra.length.symm
    have zf := zip_fst (l := ds) (m := vs) hlen
    refine PySem.W.sorted_data (bs := ds.zip vs) (enc := Prod.fst) (R := fun u b => RelV b.2 u) hl.isList (each_zip rv hlen fun _ _ h => h) (each_reads hlen hr) (by rw [zf]; exact k1) ?_ ?_ (fun b hb => ?_) fun out h1 h2 => ?_
    · rw [zf]
      rcases k2 with k2 | k2
      · refine .inl fun z hz => ?_
        have := k2 z hz
        cases z with
        | tuple l => cases l with
          | nil => exact Bool.noConfusion this
          | cons x r => exact ⟨x, r, rfl⟩
        | _ => exact Bool.noConfusion this
      · refine .inr fun z hz => ?_
        have := k2 z hz
        cases z with
        | str l => exact ⟨nofun, nofun⟩
        | _ => exact Bool.noConfusion this
    · rw [List.length_zip, hlen, Nat.min_self]; exact ha.1
    · have : b.1 ∈ ds := by
        have : b.1 ∈ (ds.zip vs).map Prod.fst := List.mem_map.mpr ⟨b, hb, rfl⟩
        rwa [zf] at this
      have := depth_mem this
      omega
    · obtain ⟨ep, he'⟩ := PyProof.Rows.sortedAll_at s.heap its out.toArray
      have vl := vals_each h2
      have rp : Reps X.K F (ds.mergeSort dleD) (((ds.zip vs).mergeSort (PySem.W.dataLe false Prod.fst)).map Prod.snd) := by
        have e6 := sort_fst (ds.zip vs)
        rw [zf] at e6
        rw [← e6]
        exact Reps.of_pairs fun p hp => ra.zipped p ((List.mergeSort_perm _ _).mem_iff.mp hp)
      have hlz : (((ds.zip vs).mergeSort (PySem.W.dataLe false Prod.fst)).map Prod.snd).length ≤ sizeLine := by
        rw [List.length_map, List.length_mergeSort, List.length_zip, hlen, Nat.min_self]; exact ha.1
      have hp := I.hok.fresh (Nat.le_succ s.heap.objs.size)
      exact ⟨.ref _, upd H (s.heap.objs.size + 1) (.lst (((ds.zip vs).mergeSort (PySem.W.dataLe false Prod.fst)).map Prod.snd)), I.laid (t' := s.toks) (fun _ _ => PyProof.Rows.sortedAll_old) (Nat.le_succ _) ⟨hlz, out, ep, vl, he'⟩, rfl, o.2.1 _ _ _ rfl hp hlz rp⟩
  | _ => cases ok0
theorem pr_sorted (hu : X.A.units + 64 < cLine) : CallR X (.builtin "sorted") (rPr X.K .sorted) := by
  intro pins s σ H xs us Q I r h
  obtain ⟨F, dx, v, d, rfl, sf, hx, e, o⟩ := h
  obtain ⟨ds, e0, e⟩ := bind_none e
  cases e1 : ints? ds with
  | none =>
    rw [e1] at e
    simp only [sortQ] at e
    split at e
    · rename_i ok
      cases e
      simp only [Bool.and_eq_true, decide_eq_true_eq] at ok
      obtain ⟨⟨ok0, ok1⟩, ok2⟩ := ok
      exact sorted_data_l hu I r sf hx e0 ok0 ok1 ok2 o
    · cases e
  | some ns =>
  rw [e1] at e
  cases e
  rw [ints?_eq e1] at e0
  have fin : ∀ (p : Addr), H p = none → ∀ z : ns.length ≤ sizeLine, Q (.ref p) (upd H p (.lst ((sortI ns).map V.int))) := fun p hp z =>
    o.2.1 p _ _ rfl hp (by rw [List.length_map, (sortI_perm ns).length_eq]; exact z) Reps.ints
  cases hx.sq sf e0 with
  | l ha ra =>
    rw [ra.ofInts] at ha
    refine cr_sortedI pins s σ H _ us Q I r ⟨_, ns, rfl, ha.sq, fun ns' p p1 p2 hp => ?_⟩
    rw [sortI_of p1 p2]
    exact fin p hp (by have := ha.1; rwa [List.length_map] at this)
  | t ha ra =>
    rw [ra.ofInts] at ha
    obtain ⟨its, rv, hl, hz⟩ := I.tuple (ha.mono sf).sq
    rw [Vals.ref1 r]
    have hi := rv.ints
    have hz' : ns.length ≤ sizeLine := by have := ha.1; rwa [List.length_map] at this
    refine sorted_tup SrtO.swo_int (show s.heap.IsTuple _ its.toArray from hl) (by rw [← rv.length]; exact hz) (fun h2 h₁ a' _ => SrtO.ints_sortable hi h2) fun out h1 h2 => ?_
    obtain ⟨k1, k2, k3⟩ := SrtO.ints_out hi h1 h2
    obtain ⟨ep, he'⟩ := PyProof.Rows.sortedAll_at s.heap its out.toArray
    have hlen : ((out.map SrtO.iv).map V.int).length ≤ sizeLine := by
      rw [List.length_map, k2.length_eq]
      exact hz'
    have q := fin (s.heap.objs.size + 1) (I.hok.fresh (Nat.le_succ _)) hz'
    rw [← sortI_of k2 k3] at q
    exact ⟨.ref _, upd H (s.heap.objs.size + 1) (.lst ((out.map SrtO.iv).map V.int)), I.laid (t' := s.toks) (fun _ _ => PyProof.Rows.sortedAll_old) (Nat.le_succ _) ⟨hlen, out, ep, vals_of_ints k1, he'⟩, rfl, q⟩
theorem pr_list : CallR X (.type "list") (rPr X.K .list) := by
  intro pins s σ H xs us Q I r h
  obtain ⟨F, dx, v, d, rfl, sf, hx, e, o⟩ := h
  obtain ⟨ds, e0, rfl⟩ := map_none e
  cases hx.sq sf e0 with
  | l ha ra => exact call_list_of pins s σ H _ us Q I r ⟨_, _, rfl, .inl ha.sq, fun l hl => o.2.1 l _ _ rfl hl ha.1 ra⟩
  | t ha ra => exact call_list_of pins s σ H _ us Q I r ⟨_, _, rfl, .inr (ha.mono sf).sq, fun l hl => o.2.1 l _ _ rfl hl ha.1 ra⟩
theorem pr_strI : CallR X (.type "str") (rPr X.K .strI) := by
  intro pins s σ H xs us Q I r h
  obtain ⟨F, dx, v, d, rfl, sf, hx, e, o⟩ := h
  cases dx with
  | int i =>
    simp only [dpr] at e
    split at e
    · rename_i hz
      cases e
      cases hx.int
      exact call_str_int pins s σ H _ us Q I r ⟨i, rfl, of_decide_eq_true hz, o.1 _ rfl (.str _)⟩
    · cases e
  | _ => cases e
theorem pr_tuple : CallR X (.type "tuple") (rPr X.K .tuple) := by
  intro pins s σ H xs us Q I r h
  obtain ⟨F, dx, v, d, rfl, sf, hx, e, o⟩ := h
  obtain ⟨ds, e0, rfl⟩ := map_none e
  cases hx.sq sf e0 with
  | l ha ra =>
    obtain ⟨u, rfl, ru⟩ := vals1 r
    cases ru
    obtain ⟨its, rv, pl, hz⟩ := I.list ha.sq
    refine call_tuple_list pl.isList (fun h' hk => ?_) (by rw [List.size_toArray, ← rv.length]; exact hz)
    have I1 : Inv X pins σ H { s with heap := h' } := I.kept (t' := s.toks) hk
    exact tupNew I1 rv hz s.toks fun p ob hp hd hcl => o.2.2.1 p ob _ _ rfl hp hz hd hcl ra
  | t ha ra =>
    obtain ⟨u, rfl, ru⟩ := vals1 r
    cases ru
    obtain ⟨its, rv, pl, hz⟩ := I.tuple (ha.mono sf).sq
    exact call_tuple_tup pl ⟨.ref _, H, I, rfl, o.1 _ rfl (.tup ha ra)⟩
/-! ### an item, a part -/
theorem atD_get {K : PySem.W.Frag} {F : Hp} {ds : List D} {vs : List V} (r : Reps K F ds vs) {i : Int} {d : D} (h : atD ds i = some d) : ∃ v, atI vs i = some v ∧ Rep K F d v := by
  unfold atD at h
  unfold atI ixN
  rw [r.length]
  split at h
  · rename_i h0
    split at h
    · rename_i h1
      rw [if_pos h0, if_pos h1, Option.bind_some]
      exact r.get h
    · cases h
  · rename_i h0
    split at h
    · rename_i h1
      rw [if_neg h0, if_pos h1, Option.bind_some]
      exact r.get h
    · cases h
def rIxD (K : PySem.W.Frag) : R2 := fun x y H Q => ∃ F dx dy d, Same F H ∧ RepT K F H dx x ∧ RepT K F H dy y ∧ dix dx dy = some d ∧ ∀ v, Rep K F d v → Q v H
theorem atD_atI (xs : List D) (i : Int) : atD xs i = atI xs i := by
  unfold atD atI ixN
  split
  · split <;> rfl
  · split <;> rfl
theorem chs_at {z : Str} {i : Int} {d : D} (h : atD (chs z) i = some d) : ∃ c, atI z.cps.toList i = some c ∧ d = chD c := by
  have hl : (chs z).length = z.cps.toList.length := List.length_map _
  rw [atD_atI] at h
  unfold atI at h ⊢
  rw [hl] at h
  obtain ⟨n, e1, hn⟩ := bind_none h
  rw [e1, Option.bind_some]
  unfold chs at hn
  rw [List.getElem?_map] at hn
  exact (map_none hn).imp fun c hc => ⟨hc.1, hc.2.symm⟩
theorem ix_D (hu : X.A.units + 64 < cLine) : IxR X (rIxD X.K) := by
  intro value slice pins s σ H x y v u Q I rx ry h hs
  obtain ⟨F, dx, dy, d, sf, hx, hy, e, q⟩ := h
  have seq : ∀ ds, items? dx = some ds → ∀ i, dy = .int i → atD ds i = some d → wpAny (model X.prog X.w) X.A (subscriptTail value slice v u) (EP X pins σ Q) X.xe s := fun ds e0 i e1 ea => by
    subst e1
    cases hy.int
    cases hx.sq sf e0 with
    | l ha ra =>
      obtain ⟨z, hz, rz⟩ := atD_get ra ea
      exact ix_list value slice pins s σ H _ _ v u Q I rx ry ⟨_, _, i, z, rfl, rfl, ha.sq, hz, q z rz⟩ hs
    | t ha ra =>
      obtain ⟨z, hz, rz⟩ := atD_get ra ea
      exact ix_tup value slice pins s σ H _ _ v u Q I rx ry ⟨_, _, i, z, rfl, rfl, (ha.mono sf).sq, hz, q z rz⟩ hs
  cases dx with
  | list ds =>
    obtain ⟨i, e1, e⟩ := bind_none e
    exact seq ds rfl i (int?_eq e1) e
  | tuple ds =>
    obtain ⟨i, e1, e⟩ := bind_none e
    exact seq ds rfl i (int?_eq e1) e
  | dict kvs =>
    simp only [dix] at e
    split at e
    · rename_i ok
      obtain ⟨h1, h2⟩ := dct_getItem (pins := pins) (σ := σ) (Q := Q) hu I sf hx rx hy ry ok e q
      exact tail_any h1 PySem.F.slot_dict_getitem.lookup h2 hs
    · cases e
  | str z =>
    simp only [dix] at e
    split at e
    · rename_i hz
      obtain ⟨i, e1, e⟩ := bind_none e
      cases int?_eq e1
      cases hy.int
      cases hx.str
      obtain ⟨c, e2, rfl⟩ := chs_at e
      exact ix_str value slice pins s σ H _ _ v u Q I rx ry ⟨z, i, c, rfl, rfl, by have := of_decide_eq_true hz; rw [sizeLine_eq]; omega, e2, q _ (.str _)⟩ hs
    · cases e
  | _ => cases e
theorem sIx_eq (n d : Nat) (o : Option Int) : HT.sIx n d o = sIx n d o := by
  cases o with
  | none => rfl
  | some i =>
    unfold HT.sIx sIx
    by_cases h : i < 0
    · simp only [if_pos h, if_neg (show ¬ 0 ≤ i by omega)]
    · simp only [if_neg h, if_pos (show 0 ≤ i by omega)]
theorem cut_eq {K : PySem.W.Frag} {F : Hp} {ds : List D} {vs : List V} (r : Reps K F ds vs) (lo hi : Option Int) : Reps K F (cutD ds lo hi) (cutV vs lo hi) := by
  unfold cutD cutV
  rw [sIx_eq, sIx_eq, r.length]
  exact (r.drop _).take _
def rSlD (K : PySem.W.Frag) : V → Option Int → Option Int → Hp → VK → Prop := fun x lo hi H Q => ∃ F dx d, Same F H ∧ RepT K F H dx x ∧ dsl dx lo hi = some d ∧ OutV K F H d Q
theorem sl_D : SlR X (rSlD X.K) := by
  intro pins s σ H x v vl vu lo hi sl Q I rx hs pl pu h
  obtain ⟨F, dx, d, sf, hx, e, o⟩ := h
  cases dx with
  | list ds =>
    cases e
    obtain ⟨a, vs, rfl, ha, ra⟩ := hx.list sf
    exact sl_list pins s σ H _ v vl vu lo hi sl Q I rx hs pl pu ⟨a, vs, rfl, ha.sq, fun p hp => o.2.1 p _ _ rfl hp (Nat.le_trans (cutV_length _ _ _) ha.1) (cut_eq ra lo hi)⟩
  | tuple ds =>
    cases e
    obtain ⟨a, vs, rfl, ha, ra⟩ := hx.tuple
    cases rx
    obtain ⟨its, r, ht, hz⟩ := I.tuple (ha.mono sf).sq
    have hlen : its.toArray.size = vs.length := by rw [List.size_toArray]; exact r.length.symm
    by_cases hw : HT.sIx vs.length 0 lo = 0 ∧ HT.sIx vs.length vs.length hi = vs.length
    · refine ⟨"tuple", _, PyProof.Rows.slot_tuple_getitem.lookup, ht.typeIs, getItem_tuple_whole ht hs pl pu (by rw [hlen]; exact hw) ⟨.ref a, H, I, rfl, o.1 _ rfl (.tup ha ?_)⟩⟩
      have c := cut_eq ra lo hi
      have e2 : cutV vs lo hi = vs := by
        unfold cutV
        rw [hw.1, hw.2, List.drop_zero, Nat.sub_zero, List.take_length]
      rw [e2] at c
      exact c
    · refine ⟨"tuple", _, PyProof.Rows.slot_tuple_getitem.lookup, ht.typeIs, HT.getItem_tuple_cut ht hs pl pu (by rw [hlen]; exact hw) ?_ (by rw [hlen]; exact hz)⟩
      rw [hlen]
      exact tupNew I ((r.drop (HT.sIx vs.length 0 lo)).take (HT.sIx vs.length vs.length hi - HT.sIx vs.length 0 lo)) (Nat.le_trans (cutV_length vs lo hi) hz) s.toks
        fun p ob hp hd hcl => o.2.2.1 p ob _ _ rfl hp (Nat.le_trans (cutV_length vs lo hi) hz) hd hcl (cut_eq ra lo hi)
  | str z =>
    simp only [dsl] at e
    split at e
    · rename_i hz
      cases e
      cases hx.str
      refine sl_str pins s σ H _ v vl vu lo hi sl Q I rx hs pl pu ⟨z, rfl, by have := of_decide_eq_true hz; rw [sizeLine_eq]; omega, ?_⟩
      unfold cutS
      rw [sIx_eq, sIx_eq]
      exact o.1 _ rfl (.str _)
    · cases e
  | _ => cases e
/-! ### isinstance -/
def tyN : D → String
  | .none => "NoneType"
  | .bool _ => "bool"
  | .int _ => "int"
  | .str _ => "str"
  | .list _ => "list"
  | .tuple _ => "tuple"
  | .dict _ => "dict"
def tyS : Ty → String
  | .bool => "bool"
  | .int => "int"
  | .str => "str"
  | .list => "list"
  | .tuple => "tuple"
theorem tyX_of {K : PySem.W.Frag} {F H : Hp} (sf : Same F H) {d : D} {v : V} (nd : isDct d = false) (h : RepT K F H d v) : TyX K H v (.type (tyN d)) := by
  cases h with
  | rep h =>
    cases h with
    | non => exact .base .non
    | bl b => exact .base (.bl b)
    | int i => exact .base (.int i)
    | str x => exact .base (.str x)
    | lst h r =>
      rcases (h.mono sf).2 with e | ⟨o, e⟩ | ⟨o, its, n, e, c, _⟩
      · exact .base (.lst e)
      · exact .base (.frz e)
      · exact .kList e c
    | tup h r =>
      rcases (h.mono sf).2 with ⟨o, e, _⟩ | ⟨o, its, n, e, c, _⟩
      · exact .fTuple e
      · exact .kTuple e c
    | dct _ _ _ => cases nd
  | own h =>
    cases d with
    | list ds => obtain ⟨vs, e, _⟩ := h; exact .base (.lst e)
    | dict kvs => cases nd
    | _ => exact h.elim
theorem kit_tyN (d : D) (t : Ty) : kitB (tyN d) (tyS t) = some (isTy d t) := by
  cases d <;> cases t <;> (first | rfl | decide +kernel)
def rIsiD (K : PySem.W.Frag) (ts : List Ty) : List V → Hp → VK → Prop := fun vs H Q => ∃ F dx x c, vs = [x, c] ∧ Same F H ∧ RepT K F H dx x ∧ isDct dx = false ∧
  ((∃ t, ts = [t] ∧ c = .ty (tyS t)) ∨ ∃ tp, c = .ref tp ∧ H tp = some (.tup (ts.map fun t => V.ty (tyS t)))) ∧ Q (.bl (ts.any (isTy dx))) H
theorem kitAny_D {K : PySem.W.Frag} (d : D) : ∀ ts : List Ty, PySem.W.kitAny K (.type (tyN d)) (ts.map fun t => Value.type (tyS t)) = some (ts.any (isTy d))
  | [] => kitAny_nil
  | t :: ts => by
    rw [List.map_cons, List.any_cons]
    refine kitAny_cons (b := isTy d t) (kit_ty (kit_tyN d t)) (fun e => ?_) (fun e => ?_)
    · rw [e, Bool.false_or]; exact kitAny_D d ts
    · rw [e, Bool.true_or]
theorem clsv_D : ∀ ts : List Ty, Paired ClsV (ts.map fun t => V.ty (tyS t)) (ts.map fun t => Value.type (tyS t))
  | [] => .nil
  | t :: ts => .cons (.ty _) (clsv_D ts)
theorem pr_isi (ts : List Ty) : CallR X (.builtin "isinstance") (rIsiD X.K ts) := by
  intro pins s σ H xs us Q I r h
  obtain ⟨F, dx, x, c, rfl, sf, hx, nd, ht, q⟩ := h
  rcases ht with ⟨t, rfl, rfl⟩ | ⟨tp, rfl, ht⟩
  · refine call_isi pins s σ H _ us Q I r ⟨x, _, _, _, _, rfl, .ty _, tyX_of sf nd hx, kit_ty (kit_tyN dx t), ?_⟩
    rw [List.any_cons, List.any_nil, Bool.or_false] at q
    exact q
  · exact call_isiT pins s σ H _ us Q I r ⟨x, tp, _, _, _, _, rfl, ht, clsv_D ts, tyX_of sf nd hx, kitAny_D dx ts, q⟩
end
end BT
namespace BT
open PySem PySem.Spec PyProof.Rows L2
/-! ## readings -/
abbrev WX := String → Hp → Prop
def Okr {α : Type} (r : Res α) (k : α → Env → Prop) (w : String → Env → Prop) : Prop :=
  match r with
  | .ok a e => k a e
  | .exc c e => w c e
  | .stuck => False
section
variable (K : PySem.W.Frag) (W : WX)
def kX (Z : Ent) (F : Hp) (σ : L2.St) : String → Env → Prop := fun c env => ∀ F' H', Same F F' → R K Z F' env σ H' → W c H'
def tP (fr : Bool) (m : Env → Res D) : TE := fun σ H Q => ∃ Z F env, R K Z F env σ H ∧ Okr (m env) (kP K fr Q Z F σ) (kX K W Z F σ)
def kT (Q : Bool → Hp → Prop) (Z : Ent) (F : Hp) (σ : L2.St) : D → Env → Prop := fun d env => ∃ b, d = .bool b ∧ ∀ F' H', Same F F' → R K Z F' env σ H' → Q b H'
def tT (m : Env → Res D) : TT := fun σ H Q => ∃ Z F env, R K Z F env σ H ∧ Okr (m env) (kT K Q Z F σ) (kX K W Z F σ)
/-- an operand: a place's object is read when all operands have come -/
def OpV (a : IE) (F : Hp) (σ : L2.St) (d : D) (v : V) : Prop :=
  match a with
  | .b i => σ[i]? = some (some v)
  | _ => Rep K F d v
def kO (a : IE) (Q : VK) (Z : Ent) (F : Hp) (σ : L2.St) : D → Env → Prop := fun d env => ∀ F' H' v, Same F F' → R K Z F' env σ H' → OpV K a F' σ d v → Q v H'
def tO (a : IE) (m : Env → Res D) : TE := fun σ H Q => ∃ Z F env, R K Z F env σ H ∧ Okr (m env) (kO K a Q Z F σ) (kX K W Z F σ)
def kA (Q : List V → Hp → Prop) (Z : Ent) (F : Hp) (σ : L2.St) : List D → Env → Prop := fun ds env => ∀ F' H' vs, Same F F' → R K Z F' env σ H' → Reps K F' ds vs → Q vs H'
def tAs (m : Env → Res (List D)) : TA := fun σ H Q => ∃ Z F env, R K Z F env σ H ∧ Okr (m env) (kA K Q Z F σ) (kX K W Z F σ)
end
theorem PE.imp {X : Cx} {e : Expr} {t t' : TE} (h : PE X e t) (i : ∀ σ H Q, t' σ H Q → t σ H Q) : PE X e t' := ⟨fun pins s σ H Q I q => h.run pins s σ H Q I (i σ H Q q)⟩
theorem PT.imp {X : Cx} {e : Expr} {t t' : TT} (h : PT X e t) (i : ∀ σ H Q, t' σ H Q → t σ H Q) : PT X e t' := ⟨fun pins s σ H Q I q => h.run pins s σ H Q I (i σ H Q q)⟩
theorem PW.imp {X : Cx} {e : Expr} {t t' : TT} (h : PW X e t) (i : ∀ σ H Q, t' σ H Q → t σ H Q) : PW X e t' := ⟨fun wh pins s σ H Q I q => h.run wh pins s σ H Q I (i σ H Q q)⟩
theorem PA.imp {X : Cx} {es : List Expr} {t t' : TA} (h : PA X es t) (i : ∀ σ H Q, t' σ H Q → t σ H Q) : PA X es t' := ⟨fun p pins s σ H Q I q => h.run p pins s σ H Q I (i σ H Q q)⟩
theorem PS.imp {X : Cx} {st : Stmt} {t t' : TS} (h : PS X st t) (i : ∀ D σ H, t' D σ H → t D σ H) : PS X st t' := ⟨fun pins s σ H D I q => h.run pins s σ H D I (i D σ H q)⟩
theorem PSs.imp {X : Cx} {st : List Stmt} {t t' : TS} (h : PSs X st t) (i : ∀ D σ H, t' D σ H → t D σ H) : PSs X st t' := ⟨fun pins s σ H D I q => h.run pins s σ H D I (i D σ H q)⟩
section
variable {K : PySem.W.Frag} {W : WX} {Z : Ent} {F F' H H' : Hp} {env : Env} {σ : L2.St}
theorem kX.mono {c : String} {e : Env} (h : kX K W Z F σ c e) (s : Same F F') : kX K W Z F' σ c e := fun F2 H2 s2 r => h F2 H2 (s.trans s2) r
theorem kP.mono {fr : Bool} {Q : VK} {d : D} {e : Env} (h : kP K fr Q Z F σ d e) (s : Same F F') : kP K fr Q Z F' σ d e := fun F2 H2 v s2 r => h F2 H2 v (s.trans s2) r
theorem OpV.mono {a : IE} {d : D} {v : V} (h : OpV K a F σ d v) (s : Same F F') : OpV K a F' σ d v := by
  unfold OpV at h ⊢
  split at h
  · exact h
  · exact Rep.mono s h
theorem rd_repT (r : R K Z F env σ H) {i : Nat} {d : D} {v : V} (h : rd env i = some d) (e : σ[i]? = some (some v)) : RepT K F H d v := by
  unfold rd at h
  cases hx : slot env i with
  | no => rw [hx] at h; cases h
  | val d' =>
    rw [hx] at h
    cases h
    obtain ⟨v', e1, q⟩ := r.vl i d (slot_get hx fun z => nomatch z)
    rw [e] at e1; cases e1
    exact .rep q
  | own d' =>
    rw [hx] at h
    cases h
    obtain ⟨a, e1, q, _⟩ := r.ow i _ d (slot_get hx fun z => nomatch z) rfl
    rw [e] at e1; cases e1
    exact .own q
  | inp d' =>
    rw [hx] at h
    cases h
    obtain ⟨a, e1, q, _⟩ := r.ow i _ d (slot_get hx fun z => nomatch z) rfl
    rw [e] at e1; cases e1
    exact .own q
/-- the operand when all have come -/
theorem OpV.late {a : IE} {d d' : D} {v : V} (h : OpV K a F σ d v) (s : Same F F') (r : R K Z F' env σ H) (e : rr a d env = some d') : RepT K F' H d' v := by
  unfold OpV at h
  unfold rr at e
  split at h
  · exact rd_repT r e h
  · split at e
    · rename_i i _ hn
      exact absurd rfl (hn _)
    · cases e
      exact .rep (Rep.mono s h)
/-- the last operand -/
theorem OpV.now {C : Calls} {a : IE} {d : D} {v : V} {e0 : Env} (h : OpV K a F σ d v) (r : R K Z F env σ H) (e : ev C a e0 = .ok d env) : RepT K F H d v := by
  unfold OpV at h
  split at h
  · rename_i i
    simp only [ev, ofO] at e
    split at e
    · rename_i d2 hd
      cases e
      exact rd_repT r hd h
    · cases e
  · exact .rep h
theorem rd_some (r : R K Z F env σ H) {i : Nat} {d : D} (h : rd env i = some d) : ∃ v, σ[i]? = some (some v) := by
  unfold rd at h
  cases hx : slot env i with
  | no => rw [hx] at h; cases h
  | val d' =>
    obtain ⟨v', e1, q⟩ := r.vl i d' (slot_get hx fun z => nomatch z)
    exact ⟨_, e1⟩
  | own d' =>
    obtain ⟨a, e1, q, _⟩ := r.ow i _ d' (slot_get hx fun z => nomatch z) rfl
    exact ⟨_, e1⟩
  | inp d' =>
    obtain ⟨a, e1, q, _⟩ := r.ow i _ d' (slot_get hx fun z => nomatch z) rfl
    exact ⟨_, e1⟩
end

/-! ## expressions, one by one -/
section
variable {X : Cx} {C : Calls} {W : WX} {a b c e : Expr} {a' b' c' : IE} {pos : Pos}
abbrev EV (X : Cx) (C : Calls) (W : WX) (fr : Bool) (a : IE) : TE := tP X.K W fr (ev C a)
abbrev EO (X : Cx) (C : Calls) (W : WX) (a : IE) : TE := tO X.K W a (ev C a)
theorem pe_k {d : D} {v : V} (h : PE X e (tC v)) (r : ∀ F : Hp, Rep X.K F d v) (n : isL d = false) : PE X e (EV X C W false (.k d)) := by
  refine PE.imp h fun σ H Q ⟨Z, F, env, r1, h⟩ => ?_
  exact h F H v (Same.refl F) r1 (by rw [Val.ff]; exact r F)
theorem pe_v {i : Nat} (h : PE X e (tVar i)) : PE X e (EV X C W false (.v i)) := by
  refine PE.imp h fun σ H Q ⟨Z, F, env, r1, h⟩ => ?_
  simp only [ev] at h
  split at h
  · rename_i d hs
    obtain ⟨v, e1, q⟩ := r1.vl i d (slot_get hs fun z => nomatch z)
    exact ⟨v, e1, h F H v (Same.refl F) r1 (by rw [Val.ff]; exact q)⟩
  · rename_i d hs
    obtain ⟨v, F', e1, r2, sf, q⟩ := r1.take hs
    exact ⟨v, e1, h F' H v sf r2 (by rw [Val.ff]; exact q)⟩
  · exact h.elim
theorem pe_b {i : Nat} (h : PE X e (tVar i)) : PE X e (EO X C W (.b i)) := by
  refine PE.imp h fun σ H Q ⟨Z, F, env, r1, h⟩ => ?_
  simp only [ev, ofO] at h
  split at h
  · rename_i d hd
    obtain ⟨v, e1⟩ := rd_some r1 hd
    exact ⟨v, e1, h F H v (Same.refl F) r1 e1⟩
  · exact h.elim
def isB : IE → Bool
  | .b _ => true
  | _ => false
/-- a value as an operand -/
theorem pe_o (h : PE X e (EV X C W false a')) (n : isB a' = false) : PE X e (EO X C W a') := by
  refine PE.imp h fun σ H Q ⟨Z, F, env, r1, h⟩ => ⟨Z, F, env, r1, ?_⟩
  cases hm : ev C a' env with
  | ok d e1 =>
    rw [hm] at h
    intro F' H' v s r q
    rw [Val.ff] at q
    refine h F' H' v s r ?_
    unfold OpV
    split
    · cases n
    · exact q
  | exc c e1 => rw [hm] at h; exact h
  | stuck => rw [hm] at h; exact h.elim
/-- two operands, then what they give -/
theorem two_o {σ : L2.St} {H : Hp} {Z : Ent} {F : Hp} {env : Env} {R' : V → V → Hp → Prop} {g : D → D → Env → Res D} {k : D → Env → Prop} (r : R X.K Z F env σ H)
    (h : Okr (match ev C a' env with | .ok x e1 => (match ev C b' e1 with | .ok y e2 => g x y e2 | .exc c e => .exc c e | .stuck => .stuck) | .exc c e => .exc c e | .stuck => .stuck) k (kX X.K W Z F σ))
    (fin : ∀ x y e1 e2 F1 F2 H2 v u, ev C a' env = .ok x e1 → ev C b' e1 = .ok y e2 → Okr (g x y e2) k (kX X.K W Z F σ) → Same F F1 → Same F1 F2 → R X.K Z F2 e2 σ H2 → OpV X.K a' F1 σ x v → OpV X.K b' F2 σ y u → R' v u H2) :
    EO X C W a' σ H fun v H1 => EO X C W b' σ H1 fun u H2 => R' v u H2 := by
  refine ⟨Z, F, env, r, ?_⟩
  cases hm : ev C a' env with
  | ok x e1 =>
    rw [hm] at h
    intro F1 H1 v s1 r1 q1
    refine ⟨Z, F1, e1, r1, ?_⟩
    simp only at h
    cases hm2 : ev C b' e1 with
    | ok y e2 =>
      rw [hm2] at h
      intro F2 H2 u s2 r2 q2
      exact fin x y e1 e2 F1 F2 H2 v u hm hm2 h s1 s2 r2 q1 q2
    | exc c e2 =>
      rw [hm2] at h
      exact kX.mono (F := F) h s1
    | stuck => rw [hm2] at h; exact h.elim
  | exc c e1 => rw [hm] at h; exact h
  | stuck => rw [hm] at h; exact h.elim
theorem okr_of {o : Option D} {e : Env} {k : D → Env → Prop} {w : String → Env → Prop} (h : Okr (ofO o e) k w) : ∃ d, o = some d ∧ k d e := by
  cases o with
  | none => exact h.elim
  | some d => exact ⟨d, rfl, h⟩
theorem res_eta {α : Type} (r : Res α) : (match r with | .ok a e => Res.ok a e | .exc c e => .exc c e | .stuck => .stuck) = r := by cases r <;> rfl
theorem pe_bin {op : Operator} {fr : Bool} (ha : PE X a (EO X C W a')) (hb : PE X b (EO X C W b')) : PE X (.BinOp a op b pos) (EV X C W fr (.bin op a' b')) := by
  refine PE.imp (pe_op (op_bin op) ha hb) fun σ H Q ⟨Z, F, env, r, h⟩ => ?_
  refine two_o (g := fun x y e2 => ofO ((rr a' x e2).bind fun x' => dbin op x' y) e2) (k := kP X.K fr Q Z F σ) r ?_ fun x y e1 e2 F1 F2 H2 v u m1 m2 h s1 s2 r2 q1 q2 => ?_
  · simp only [ev] at h
    cases h1 : ev C a' env with
    | ok x e1 =>
      rw [h1] at h
      simp only at h ⊢
      cases h2 : ev C b' e1 with
      | ok y e2 => rw [h2] at h; exact h
      | exc c e2 => rw [h2] at h; exact h
      | stuck => rw [h2] at h; exact h
    | exc c e1 => rw [h1] at h; exact h
    | stuck => rw [h1] at h; exact h
  · obtain ⟨d, e3, h⟩ := okr_of h
    obtain ⟨x', e4, e5⟩ := bind_none e3
    exact ⟨F2, x', y, d, r2.fh, q1.late s2 r2 e4, q2.now r2 m2, e5, out_of r2 (s1.trans s2) h⟩
theorem cmp_read {op : CmpOp} {σ : L2.St} {H : Hp} {Q : VK} {Z : Ent} {F : Hp} {env : Env} (r : R X.K Z F env σ H) (h : Okr (ev C (.cmp op a' b') env) (kP X.K false Q Z F σ) (kX X.K W Z F σ)) :
    tOp (rC X.K op) (EO X C W a') (EO X C W b') σ H Q := by
  refine two_o (g := fun x y e2 => ofO ((rr a' x e2).bind fun x' => (dcmp op x' y).map PyData.bool) e2) (k := kP X.K false Q Z F σ) r ?_ fun x y e1 e2 F1 F2 H2 v u m1 m2 h s1 s2 r2 q1 q2 => ?_
  · simp only [ev] at h
    cases h1 : ev C a' env with
    | ok x e1 =>
      rw [h1] at h
      simp only at h ⊢
      cases h2 : ev C b' e1 with
      | ok y e2 => rw [h2] at h; exact h
      | exc c e2 => rw [h2] at h; exact h
      | stuck => rw [h2] at h; exact h
    | exc c e1 => rw [h1] at h; exact h
    | stuck => rw [h1] at h; exact h
  · obtain ⟨d, e3, h⟩ := okr_of h
    obtain ⟨x', e4, e5⟩ := bind_none e3
    obtain ⟨t, e6, rfl⟩ := map_none e5
    exact ⟨F2, x', y, t, r2.fh, q1.late s2 r2 e4, q2.now r2 m2, e6, h F2 H2 _ (s1.trans s2) r2 (by rw [Val.ff]; exact .bl t)⟩
theorem pe_cm {op : CmpOp} (hu : X.A.units + 64 < cLine) (hm : behindInMarks op b = false) (ha : PE X a (EO X C W a')) (hb : PE X b (EO X C W b')) : PE X (.Compare a [op] [b] pos) (EV X C W false (.cmp op a' b')) :=
  PE.imp (pe_cmpR (op_cmp hu op) ha hb hm) fun _ _ _ ⟨_, _, _, r, h⟩ => cmp_read r h
/-- a test, whatever it is, from a value -/
theorem tt_of {t : TE} {m : Env → Res D} (h : ∀ σ H Q, tP X.K W false m σ H Q → t σ H Q) (σ : L2.St) (H : Hp) (Q : Bool → Hp → Prop) (q : tT X.K W m σ H Q) : tTest t σ H Q := by
  obtain ⟨Z, F, env, r, q⟩ := q
  refine h σ H _ ⟨Z, F, env, r, ?_⟩
  cases hm : m env with
  | ok d e1 =>
    rw [hm] at q
    obtain ⟨b, rfl, q⟩ := q
    intro F' H' v s r' w
    rw [Val.ff] at w
    cases w
    exact ⟨b, rfl, q F' H' s r'⟩
  | exc c e1 => rw [hm] at q; exact q
  | stuck => rw [hm] at q; exact q.elim
abbrev ET (X : Cx) (C : Calls) (W : WX) (a : IE) : TT := tT X.K W (ev C a)
theorem pt_cm {op : CmpOp} (hu : X.A.units + 64 < cLine) (hm : behindInMarks op b = false) (ha : PE X a (EO X C W a')) (hb : PE X b (EO X C W b')) : PT X (.Compare a [op] [b] pos) (ET X C W (.cmp op a' b')) :=
  PT.imp (pt_cmpR (op_cmp hu op) ha hb hm) (tt_of fun _ _ _ ⟨_, _, _, r, h⟩ => cmp_read r h)
theorem isn_read {σ : L2.St} {H : Hp} {Q : VK} {Z : Ent} {F : Hp} {env : Env} (r : R X.K Z F env σ H) (h : Okr (ev C (.isN a') env) (kP X.K false Q Z F σ) (kX X.K W Z F σ)) : tIsN (EO X C W a') σ H Q := by
  refine ⟨Z, F, env, r, ?_⟩
  simp only [ev] at h
  cases h1 : ev C a' env with
  | ok x e1 =>
    rw [h1] at h
    intro F' H' v s r' q
    have z : decide (v = V.non) = isNone x := by
      cases q.now r' h1 with
      | rep w => cases w <;> rfl
      | own w => cases x <;> first | rfl | exact w.elim
    rw [z]
    exact h F' H' _ s r' (by rw [Val.ff]; exact .bl _)
  | exc c e1 => rw [h1] at h; exact h
  | stuck => rw [h1] at h; exact h.elim
theorem notn_read {σ : L2.St} {H : Hp} {Q : VK} {Z : Ent} {F : Hp} {env : Env} (r : R X.K Z F env σ H) (h : Okr (ev C (.notN a') env) (kP X.K false Q Z F σ) (kX X.K W Z F σ)) : tNotN (EO X C W a') σ H Q := by
  refine ⟨Z, F, env, r, ?_⟩
  simp only [ev] at h
  cases h1 : ev C a' env with
  | ok x e1 =>
    rw [h1] at h
    intro F' H' v s r' q
    have z : (!decide (v = V.non)) = !isNone x := by
      cases q.now r' h1 with
      | rep w => cases w <;> rfl
      | own w => cases x <;> first | rfl | exact w.elim
    rw [z]
    exact h F' H' _ s r' (by rw [Val.ff]; exact .bl _)
  | exc c e1 => rw [h1] at h; exact h
  | stuck => rw [h1] at h; exact h.elim
theorem pe_isn {j pos'} (ha : PE X a (EO X C W a')) : PE X (.Compare a [.Is] [.Constant .none j pos'] pos) (EV X C W false (.isN a')) := PE.imp (pe_cmp (pc_isN ha) rfl) fun _ _ _ ⟨_, _, _, r, h⟩ => isn_read r h
theorem pe_notn {j pos'} (ha : PE X a (EO X C W a')) : PE X (.Compare a [.IsNot] [.Constant .none j pos'] pos) (EV X C W false (.notN a')) := PE.imp (pe_cmp (pc_notN ha) rfl) fun _ _ _ ⟨_, _, _, r, h⟩ => notn_read r h
theorem pt_isn {j pos'} (ha : PE X a (EO X C W a')) : PT X (.Compare a [.Is] [.Constant .none j pos'] pos) (ET X C W (.isN a')) := PT.imp (pt_cmp (pc_isN ha) rfl) (tt_of fun _ _ _ ⟨_, _, _, r, h⟩ => isn_read r h)
theorem pt_notn {j pos'} (ha : PE X a (EO X C W a')) : PT X (.Compare a [.IsNot] [.Constant .none j pos'] pos) (ET X C W (.notN a')) := PT.imp (pt_cmp (pc_notN ha) rfl) (tt_of fun _ _ _ ⟨_, _, _, r, h⟩ => notn_read r h)
/-! a < b < c -/
theorem chain_read {op op' : CmpOp} {σ : L2.St} {H : Hp} {Q : VK} {Z : Ent} {F : Hp} {env : Env} (r : R X.K Z F env σ H) (h : Okr (ev C (.cmp2 op op' a' b' c') env) (kP X.K false Q Z F σ) (kX X.K W Z F σ)) :
    tChain (rC X.K op) (rC X.K op') (EV X C W false a') (EV X C W false b') (EV X C W false c') σ H Q := by
  simp only [ev] at h
  refine ⟨Z, F, env, r, ?_⟩
  cases h1 : ev C a' env with
  | ok x e1 =>
    rw [h1] at h
    intro F1 H1 v s1 r1 q1
    rw [Val.ff] at q1
    refine ⟨Z, F1, e1, r1, ?_⟩
    simp only at h
    cases h2 : ev C b' e1 with
    | ok y e2 =>
      rw [h2] at h
      intro F2 H2 u s2 r2 q2
      rw [Val.ff] at q2
      simp only at h
      cases h3 : dcmp op x y with
      | none => rw [h3] at h; exact h.elim
      | some t =>
        rw [h3] at h
        refine ⟨F2, x, y, t, r2.fh, .rep (q1.mono s2), .rep q2, h3, t, rfl, ?_⟩
        cases t with
        | false =>
          rw [if_neg Bool.false_ne_true]
          exact h F2 H2 _ (s1.trans s2) r2 (by rw [Val.ff]; exact .bl _)
        | true =>
          rw [if_pos rfl]
          refine ⟨Z, F2, e2, r2, ?_⟩
          simp only at h
          cases h4 : ev C c' e2 with
          | ok z e3 =>
            rw [h4] at h
            intro F3 H3 w s3 r3 q3
            rw [Val.ff] at q3
            obtain ⟨d, e5, h⟩ := okr_of h
            obtain ⟨t', e6, rfl⟩ := map_none e5
            exact ⟨F3, y, z, t', r3.fh, .rep (q2.mono s3), .rep q3, e6, h F3 H3 _ ((s1.trans s2).trans s3) r3 (by rw [Val.ff]; exact .bl _)⟩
          | exc c e3 => rw [h4] at h; exact kX.mono (F := F) h (s1.trans s2)
          | stuck => rw [h4] at h; exact h.elim
    | exc c e2 => rw [h2] at h; exact kX.mono (F := F) h s1
    | stuck => rw [h2] at h; exact h.elim
  | exc c e1 => rw [h1] at h; exact h
  | stuck => rw [h1] at h; exact h.elim
theorem pe_ch {op op' : CmpOp} (hu : X.A.units + 64 < cLine) (hm : lastMarks [op, op'] [b, c] = false) (ha : PE X a (EV X C W false a')) (hb : PE X b (EV X C W false b')) (hc : PE X c (EV X C W false c')) :
    PE X (.Compare a [op, op'] [b, c] pos) (EV X C W false (.cmp2 op op' a' b' c')) := PE.imp (pe_chain (op_cmp hu op) (op_cmp hu op') ha hb hc hm) fun _ _ _ ⟨_, _, _, r, h⟩ => chain_read r h
theorem pt_ch {op op' : CmpOp} (hu : X.A.units + 64 < cLine) (hm : lastMarks [op, op'] [b, c] = false) (ha : PE X a (EV X C W false a')) (hb : PE X b (EV X C W false b')) (hc : PE X c (EV X C W false c')) :
    PT X (.Compare a [op, op'] [b, c] pos) (ET X C W (.cmp2 op op' a' b' c')) := PT.imp (pt_chain (op_cmp hu op) (op_cmp hu op') ha hb hc hm) (tt_of fun _ _ _ ⟨_, _, _, r, h⟩ => chain_read r h)
/-! one value, then what it gives -/
theorem one_v {σ : L2.St} {H : Hp} {Z : Ent} {F : Hp} {env : Env} {R' : V → Hp → Prop} {k : D → Env → Prop} (r : R X.K Z F env σ H) (f : Res D → Res D) (g : D → Env → Res D) (e1 : ∀ x e, f (.ok x e) = g x e) (e2 : ∀ c e, f (.exc c e) = .exc c e) (e3 : f .stuck = .stuck)
    (h : Okr (f (ev C a' env)) k (kX X.K W Z F σ))
    (fin : ∀ x e1 F1 H1 v, Okr (g x e1) k (kX X.K W Z F σ) → Same F F1 → R X.K Z F1 e1 σ H1 → Rep X.K F1 x v → R' v H1) : EV X C W false a' σ H fun v H1 => R' v H1 := by
  refine ⟨Z, F, env, r, ?_⟩
  cases hm : ev C a' env with
  | ok x e4 =>
    rw [hm, e1] at h
    intro F1 H1 v s1 r1 q1
    rw [Val.ff] at q1
    exact fin x e4 F1 H1 v h s1 r1 q1
  | exc c e4 => rw [hm, e2] at h; exact h
  | stuck => rw [hm, e3] at h; exact h.elim
theorem one_o {σ : L2.St} {H : Hp} {Z : Ent} {F : Hp} {env : Env} {R' : V → Hp → Prop} {k : D → Env → Prop} (r : R X.K Z F env σ H) (f : Res D → Res D) (g : D → Env → Res D) (e1 : ∀ x e, f (.ok x e) = g x e) (e2 : ∀ c e, f (.exc c e) = .exc c e) (e3 : f .stuck = .stuck)
    (h : Okr (f (ev C a' env)) k (kX X.K W Z F σ))
    (fin : ∀ x e1 F1 H1 v, Okr (g x e1) k (kX X.K W Z F σ) → Same F F1 → R X.K Z F1 e1 σ H1 → RepT X.K F1 H1 x v → R' v H1) : EO X C W a' σ H fun v H1 => R' v H1 := by
  refine ⟨Z, F, env, r, ?_⟩
  cases hm : ev C a' env with
  | ok x e4 =>
    rw [hm, e1] at h
    intro F1 H1 v s1 r1 q1
    exact fin x e4 F1 H1 v h s1 r1 (q1.now r1 hm)
  | exc c e4 => rw [hm, e2] at h; exact h
  | stuck => rw [hm, e3] at h; exact h.elim
theorem pe_ng (ha : PE X a (EV X C W false a')) : PE X (.UnaryOp .USub a pos) (EV X C W false (.neg a')) := by
  refine PE.imp (pe_un un_neg ha) fun σ H Q ⟨Z, F, env, r, h⟩ => ?_
  refine one_v (k := kP X.K false Q Z F σ) r (fun r => match r with | .ok x e1 => ofO ((int? x).map fun i => .int (-i)) e1 | r => r) (fun x e1 => ofO ((int? x).map fun i => .int (-i)) e1) (fun _ _ => rfl) (fun _ _ => rfl) rfl h fun x e1 F1 H1 v h s1 r1 q1 => ?_
  obtain ⟨d, e3, h⟩ := okr_of h
  obtain ⟨i, e4, rfl⟩ := map_none e3
  cases int?_eq e4
  cases q1
  exact ⟨i, rfl, h F1 H1 _ s1 r1 (by rw [Val.ff]; exact .int _)⟩
theorem bool?_eq {x : D} {i : Bool} (h : bool? x = some i) : x = .bool i := by
  cases x <;> simp [bool?] at h
  rw [h]
theorem pe_nt (ha : PE X a (EV X C W false a')) : PE X (.UnaryOp .Not a pos) (EV X C W false (.not a')) := by
  refine PE.imp (pe_not ha) fun σ H Q ⟨Z, F, env, r, h⟩ => ?_
  refine one_v (k := kP X.K false Q Z F σ) r (fun r => match r with | .ok x e1 => ofO ((bool? x).map fun c => .bool (!c)) e1 | r => r) (fun x e1 => ofO ((bool? x).map fun c => .bool (!c)) e1) (fun _ _ => rfl) (fun _ _ => rfl) rfl h fun x e1 F1 H1 v h s1 r1 q1 => ?_
  obtain ⟨d, e3, h⟩ := okr_of h
  obtain ⟨i, e4, rfl⟩ := map_none e3
  cases bool?_eq e4
  cases q1
  exact ⟨i, rfl, h F1 H1 _ s1 r1 (by rw [Val.ff]; exact .bl _)⟩
theorem pt_nt (ha : PT X a (ET X C W a')) : PT X (.UnaryOp .Not a pos) (ET X C W (.not a')) := by
  refine PT.imp (pt_not ha) fun σ H Q ⟨Z, F, env, r, h⟩ => ⟨Z, F, env, r, ?_⟩
  simp only [ev] at h
  cases h1 : ev C a' env with
  | ok x e1 =>
    rw [h1] at h
    obtain ⟨d, e3, h⟩ := okr_of h
    obtain ⟨i, e4, rfl⟩ := map_none e3
    cases bool?_eq e4
    obtain ⟨b, e5, h⟩ := h
    cases e5
    exact ⟨i, rfl, h⟩
  | exc c e1 => rw [h1] at h; exact h
  | stuck => rw [h1] at h; exact h.elim
variable {rest : List Expr}
theorem pe_an (ha : PE X a (EV X C W false a')) (hb : PE X (.BoolOp .And (b :: rest) pos) (EV X C W false b')) : PE X (.BoolOp .And (a :: b :: rest) pos) (EV X C W false (.and a' b')) := by
  refine PE.imp (pe_and ha hb) fun σ H Q ⟨Z, F, env, r, h⟩ => ⟨Z, F, env, r, ?_⟩
  simp only [ev] at h
  cases h1 : ev C a' env with
  | ok x e1 =>
    rw [h1] at h
    intro F1 H1 v s1 r1 q1
    rw [Val.ff] at q1
    cases x with
    | bool c =>
      cases q1
      refine ⟨c, rfl, ?_⟩
      cases c with
      | true =>
        rw [if_pos rfl]
        refine ⟨Z, F1, e1, r1, ?_⟩
        simp only at h
        cases h2 : ev C b' e1 with
        | ok y e2 => rw [h2] at h; exact kP.mono (F := F) h s1
        | exc c e2 => rw [h2] at h; exact kX.mono (F := F) h s1
        | stuck => rw [h2] at h; exact h.elim
      | false =>
        rw [if_neg Bool.false_ne_true]
        exact h F1 H1 _ s1 r1 (by rw [Val.ff]; exact .bl _)
    | _ => exact h.elim
  | exc c e1 => rw [h1] at h; exact h
  | stuck => rw [h1] at h; exact h.elim
theorem pe_r (ha : PE X a (EV X C W false a')) (hb : PE X (.BoolOp .Or (b :: rest) pos) (EV X C W false b')) : PE X (.BoolOp .Or (a :: b :: rest) pos) (EV X C W false (.or a' b')) := by
  refine PE.imp (pe_or ha hb) fun σ H Q ⟨Z, F, env, r, h⟩ => ⟨Z, F, env, r, ?_⟩
  simp only [ev] at h
  cases h1 : ev C a' env with
  | ok x e1 =>
    rw [h1] at h
    intro F1 H1 v s1 r1 q1
    rw [Val.ff] at q1
    cases x with
    | bool c =>
      cases q1
      refine ⟨c, rfl, ?_⟩
      cases c with
      | false =>
        rw [if_neg Bool.false_ne_true]
        refine ⟨Z, F1, e1, r1, ?_⟩
        simp only at h
        cases h2 : ev C b' e1 with
        | ok y e2 => rw [h2] at h; exact kP.mono (F := F) h s1
        | exc c e2 => rw [h2] at h; exact kX.mono (F := F) h s1
        | stuck => rw [h2] at h; exact h.elim
      | true =>
        rw [if_pos rfl]
        exact h F1 H1 _ s1 r1 (by rw [Val.ff]; exact .bl _)
    | _ => exact h.elim
  | exc c e1 => rw [h1] at h; exact h
  | stuck => rw [h1] at h; exact h.elim
theorem kT.mono {K : PySem.W.Frag} {Q : Bool → Hp → Prop} {Z : Ent} {F F' : Hp} {σ : L2.St} {d : D} {e : Env} (h : kT K Q Z F σ d e) (s : Same F F') : kT K Q Z F' σ d e := by
  obtain ⟨b, e1, h⟩ := h
  exact ⟨b, e1, fun F2 H2 s2 r => h F2 H2 (s.trans s2) r⟩
theorem okT_mono {K : PySem.W.Frag} {Q : Bool → Hp → Prop} {Z : Ent} {F F' : Hp} {σ : L2.St} {r : Res D} (h : Okr r (kT K Q Z F σ) (kX K W Z F σ)) (s : Same F F') : Okr r (kT K Q Z F' σ) (kX K W Z F' σ) := by
  cases r with
  | ok d e => exact kT.mono (F := F) h s
  | exc c e => exact kX.mono (F := F) h s
  | stuck => exact h
theorem okP_mono {K : PySem.W.Frag} {fr : Bool} {Q : VK} {Z : Ent} {F F' : Hp} {σ : L2.St} {r : Res D} (h : Okr r (kP K fr Q Z F σ) (kX K W Z F σ)) (s : Same F F') : Okr r (kP K fr Q Z F' σ) (kX K W Z F' σ) := by
  cases r with
  | ok d e => exact kP.mono (F := F) h s
  | exc c e => exact kX.mono (F := F) h s
  | stuck => exact h
theorem pw_an (ha : PT X a (ET X C W a')) (hb : PW X (.BoolOp .And (b :: rest) pos) (ET X C W b')) : PW X (.BoolOp .And (a :: b :: rest) pos) (ET X C W (.and a' b')) := by
  refine PW.imp (pw_and ha hb) fun σ H Q ⟨Z, F, env, r, h⟩ => ⟨Z, F, env, r, ?_⟩
  simp only [ev] at h
  cases h1 : ev C a' env with
  | ok x e1 =>
    rw [h1] at h
    cases x with
    | bool c =>
      refine ⟨c, rfl, fun F1 H1 s1 r1 => ?_⟩
      cases c with
      | true => rw [if_pos rfl]; exact ⟨Z, F1, e1, r1, okT_mono h s1⟩
      | false =>
        rw [if_neg Bool.false_ne_true]
        obtain ⟨b, e2, h⟩ := h
        cases e2
        exact h F1 H1 s1 r1
    | _ => exact h.elim
  | exc c e1 => rw [h1] at h; exact h
  | stuck => rw [h1] at h; exact h.elim
theorem pw_r (ha : PT X a (ET X C W a')) (hb : PW X (.BoolOp .Or (b :: rest) pos) (ET X C W b')) : PW X (.BoolOp .Or (a :: b :: rest) pos) (ET X C W (.or a' b')) := by
  refine PW.imp (pw_or ha hb) fun σ H Q ⟨Z, F, env, r, h⟩ => ⟨Z, F, env, r, ?_⟩
  simp only [ev] at h
  cases h1 : ev C a' env with
  | ok x e1 =>
    rw [h1] at h
    cases x with
    | bool c =>
      refine ⟨c, rfl, fun F1 H1 s1 r1 => ?_⟩
      cases c with
      | false => rw [if_neg Bool.false_ne_true]; exact ⟨Z, F1, e1, r1, okT_mono h s1⟩
      | true =>
        rw [if_pos rfl]
        obtain ⟨b, e2, h⟩ := h
        cases e2
        exact h F1 H1 s1 r1
    | _ => exact h.elim
  | exc c e1 => rw [h1] at h; exact h
  | stuck => rw [h1] at h; exact h.elim
theorem pe_if (hc : PT X c (ET X C W c')) (ha : PE X a (EV X C W false a')) (hb : PE X b (EV X C W false b')) : PE X (.IfExp c a b pos) (EV X C W false (.ite c' a' b')) := by
  refine PE.imp (pe_ifExp hc ha hb) fun σ H Q ⟨Z, F, env, r, h⟩ => ⟨Z, F, env, r, ?_⟩
  simp only [ev] at h
  cases h1 : ev C c' env with
  | ok x e1 =>
    rw [h1] at h
    cases x with
    | bool c =>
      refine ⟨c, rfl, fun F1 H1 s1 r1 => ?_⟩
      cases c with
      | true => rw [if_pos rfl]; exact ⟨Z, F1, e1, r1, okP_mono h s1⟩
      | false => rw [if_neg Bool.false_ne_true]; exact ⟨Z, F1, e1, r1, okP_mono h s1⟩
    | _ => exact h.elim
  | exc c e1 => rw [h1] at h; exact h
  | stuck => rw [h1] at h; exact h.elim
/-- a test from a value -/
theorem pt_vl {e' : IE} (h : PE X e (EV X C W false e')) (he : ∀ whole, isTrue e X.env whole = (do let v ← whole; standAt e.pos; holding [v] (truthy v))) : PT X e (ET X C W e') :=
  PT.imp (pt_val h he) (tt_of fun _ _ _ q => q)
end
end BT
namespace BT
open PySem PySem.Spec PyProof.Rows L2
/-! ## t[::-1] -/
section
variable {prog : Program} {w : World} {A : Around} {E : Value → Shared → Prop} {s : Shared}
theorem sliceApplied_rev {sl : Addr} {vl vu vs : Value} {n : Nat} {Q : Int × Int × Nat → Shared → Prop} (hs : s.heap.IsSliceOf sl vl vu vs) (pl : IsPart vl none) (pu : IsPart vu none) (ps : IsPart vs (some (-1)))
    (h : Q ((n : Int) - 1, -1, n) s) : wpAny (model prog w) A (Builtin.Slice.sliceApplied (.ref sl) (pure (n : Int))) Q E s := by
  obtain ⟨os, hos, hcs, hds⟩ := id hs
  unfold Builtin.Slice.sliceApplied Builtin.Slice.sliceFields
  refine wpAny_bind (wpAny_bind (wpAny_field hos hds (x := vl) rfl (wpAny_bind (wpAny_field hos hds (x := vu) rfl (wpAny_bind (wpAny_field hos hds (x := vs) rfl (wpAny_pure ?_)))))))
  refine wpAny_bind (HT.slicePart_ ps ?_)
  show wpAny _ _ (if ((-1 : Int) == 0) = true then _ else _) _ _ s
  rw [if_neg (by decide)]
  refine wpAny_bind (HT.slicePart_ pl (wpAny_bind (HT.slicePart_ pu (wpAny_bind (wpAny_pure ?_)))))
  show wpAny _ _ (match Builtin.Slice.sliceAdjust none none (-1) (n : Int) with | (lo, hi) => pure (lo, (-1 : Int), Builtin.Slice.slicePlaces lo hi (-1))) _ _ s
  have e1 : Builtin.Slice.sliceAdjust none none (-1) (n : Int) = ((n : Int) - 1, -1) := by
    unfold Builtin.Slice.sliceAdjust
    simp
  rw [e1]
  have e2 : Builtin.Slice.slicePlaces ((n : Int) - 1) (-1) (-1) = n := by
    unfold Builtin.Slice.slicePlaces
    rw [if_neg (by omega), show (- -1 : Int) = 1 from rfl, Int.ediv_one]
    split <;> omega
  show wpAny _ _ (pure ((n : Int) - 1, (-1 : Int), Builtin.Slice.slicePlaces ((n : Int) - 1) (-1) (-1))) _ _ s
  rw [e2]
  exact wpAny_pure h
theorem fm_map {α β : Type} {f : α → Option β} {g : α → β} : ∀ {l : List α}, (∀ m ∈ l, f m = some (g m)) → l.filterMap f = l.map g
  | [], _ => rfl
  | a :: l, h => by
    rw [List.filterMap_cons, h a List.mem_cons_self, List.map_cons, fm_map fun m hm => h m (List.mem_cons_of_mem _ hm)]
theorem pick_rev (xs : Array Value) : ((List.range xs.size).filterMap fun (m : Nat) => xs[((xs.size : Int) - 1 + (m : Int) * -1).toNat]?).toArray = xs.toList.reverse.toArray := by
  have e : (List.range xs.size).filterMap (fun (m : Nat) => xs[((xs.size : Int) - 1 + (m : Int) * -1).toNat]?) = xs.toList.reverse := by
    refine List.ext_getElem? fun i => ?_
    have g : ∀ (m : Nat), m ∈ List.range xs.size → (fun (m : Nat) => xs[((xs.size : Int) - 1 + (m : Int) * -1).toNat]?) m = some (xs.getD (xs.size - 1 - m) .none) := fun m hm => by
      have hm := List.mem_range.mp hm
      have e1 : ((xs.size : Int) - 1 + (m : Int) * -1).toNat = xs.size - 1 - m := by omega
      have h2 : xs.size - 1 - m < xs.size := by omega
      show xs[((xs.size : Int) - 1 + (m : Int) * -1).toNat]? = _
      rw [e1]
      simp [h2]
    have g2 : (List.range xs.size).filterMap (fun (m : Nat) => xs[((xs.size : Int) - 1 + (m : Int) * -1).toNat]?) = (List.range xs.size).map fun m => xs.getD (xs.size - 1 - m) .none := fm_map g
    rw [g2]
    by_cases hi : i < xs.size
    · rw [List.getElem?_reverse (by rw [Array.length_toList]; exact hi), Array.length_toList, List.getElem?_map, List.getElem?_range hi]
      have h2 : xs.size - 1 - i < xs.size := by omega
      simp [h2]
    · rw [List.getElem?_eq_none (by simp; omega), List.getElem?_eq_none (by simp; omega)]
  rw [e]
theorem getItem_tuple_rev {t sl : Addr} {items : Array Value} {vl vu vs : Value} {Q : Value → Shared → Prop} (ht : IsTup s.heap t items) (hs : s.heap.IsSliceOf sl vl vu vs) (pl : IsPart vl none) (pu : IsPart vu none) (ps : IsPart vs (some (-1)))
    (h : Q (.ref s.heap.objs.size) { s with heap := s.heap.push { cls := .type "tuple", data := .seq items.toList.reverse.toArray } }) (hsz : items.size ≤ sizeLine) : wpAny (model prog w) A (getItem (.ref t) (.ref sl)) Q E s := by
  have htake : sizeOk (.seq items.toList.reverse.toArray) := by
    show items.toList.reverse.toArray.size ≤ sizeLine
    rw [List.size_toArray, List.length_reverse, Array.length_toList]
    exact hsz
  obtain ⟨os, hos, hcs, hds⟩ := id hs
  have hTs : s.TypeIs (.ref sl) "slice" := ⟨os, hos, hcs⟩
  unfold getItem
  try with_reducible refine wpAny_holding ?_
  first | refine wpAny_bind (wpAny_pure ?_) | skip
  refine wpAny_bind (wpAny_sequenceKey ht.typeIs (by decide) ?_)
  refine wpAny_bind (wpAny_callSpecial?_slot (name := Str.ofString "__getitem__") ht.typeIs PyProof.Rows.slot_tuple_getitem
    (wpAny_call_entry PyProof.Rows.slot_tuple_getitem ht.typeIs entry_tuple_getitem ?_ (args_tuple_getitem _ _)))
  show wpAny _ _ (Builtin.Tuple.tupleItemsOf (.ref t) >>= _) _ _ s
  refine wpAny_bind (tupleItemsOf_ ht (wpAny_bind (wpAny_typeOf hTs ?_)))
  rw [if_pos (by decide)]
  refine wpAny_bind (sliceApplied_rev hs pl pu ps ?_)
  have hno : ¬ ((((items.size : Int) - 1) == 0 && (-1 : Int) == 1 && items.size == items.size) = true) := by
    intro q
    rw [Bool.and_eq_true, Bool.and_eq_true] at q
    exact absurd q.1.2 (by decide)
  show wpAny _ _ (if (((items.size : Int) - 1) == 0 && (-1 : Int) == 1 && items.size == items.size) = true then _ else _) _ _ s
  rw [if_neg hno, pick_rev]
  first
    | exact wpAny_bind (m := Builtin.Tuple.tupleExact _) (wpAny_newObj_type (wpAny_pure ⟨_, rfl, wpAny_pure h⟩) htake)
    | exact wpAny_bind (m := Builtin.Tuple.tupleExact _) (wpAny_newObj_type (wpAny_bind (wpAny_pure (wpAny_pure ⟨_, rfl, wpAny_pure h⟩))) htake)
end
section
variable {X : Cx} {C : Calls} {W : WX} {a b c e : Expr} {es : List Expr} {a' b' c' : IE} {as' : IEs} {pos : Pos}
abbrev EA (X : Cx) (C : Calls) (W : WX) (as : IEs) : TA := tAs X.K W (evs C as)
theorem pa_n : PA X [] (EA X C W .nil) := PA.imp pa_nil fun σ H Q ⟨Z, F, env, r, h⟩ => h F H [] (Same.refl F) r .nil
theorem kA.mono {K : PySem.W.Frag} {Q : List V → Hp → Prop} {Z : Ent} {F F' : Hp} {σ : L2.St} {d : List D} {e : Env} (h : kA K Q Z F σ d e) (s : Same F F') : kA K Q Z F' σ d e := fun F2 H2 v s2 r => h F2 H2 v (s.trans s2) r
theorem pa_c (ha : PE X a (EV X C W false a')) (hr : PA X es (EA X C W as')) (hs : starEach (a :: es) X.env = (false, eval a X.env) :: starEach es X.env) : PA X (a :: es) (EA X C W (.cons a' as')) := by
  refine PA.imp (pa_cons ha hr hs) fun σ H Q ⟨Z, F, env, r, h⟩ => ⟨Z, F, env, r, ?_⟩
  simp only [evs] at h
  cases h1 : ev C a' env with
  | ok x e1 =>
    rw [h1] at h
    intro F1 H1 v s1 r1 q1
    rw [Val.ff] at q1
    refine ⟨Z, F1, e1, r1, ?_⟩
    simp only at h
    cases h2 : evs C as' e1 with
    | ok ds e2 =>
      rw [h2] at h
      intro F2 H2 vs s2 r2 q2
      exact h F2 H2 _ (s1.trans s2) r2 (.cons (q1.mono s2) q2)
    | exc c e2 => rw [h2] at h; exact kX.mono (F := F) h s1
    | stuck => rw [h2] at h; exact h.elim
  | exc c e1 => rw [h1] at h; exact h
  | stuck => rw [h1] at h; exact h.elim
/-! displays -/
theorem okA {σ : L2.St} {H : Hp} {Z : Ent} {F : Hp} {env : Env} {Q : List V → Hp → Prop} {k : D → Env → Prop} (r : R X.K Z F env σ H) {g : List D → Env → Res D}
    (h : Okr (match evs C as' env with | .ok ds e1 => g ds e1 | .exc c e1 => .exc c e1 | .stuck => .stuck) k (kX X.K W Z F σ))
    (fin : ∀ ds e1 F1 H1 vs, Okr (g ds e1) k (kX X.K W Z F σ) → Same F F1 → R X.K Z F1 e1 σ H1 → Reps X.K F1 ds vs → Q vs H1) : EA X C W as' σ H Q := by
  refine ⟨Z, F, env, r, ?_⟩
  cases h1 : evs C as' env with
  | ok ds e1 =>
    rw [h1] at h
    intro F1 H1 vs s1 r1 q1
    exact fin ds e1 F1 H1 vs h s1 r1 q1
  | exc c e1 => rw [h1] at h; exact h
  | stuck => rw [h1] at h; exact h.elim
def lenEs : IEs → Nat
  | .nil => 0
  | .cons _ as => lenEs as + 1
theorem evs_len : ∀ {as : IEs} {env e1 : Env} {ds : List D}, evs C as env = .ok ds e1 → ds.length = lenEs as
  | .nil, _, _, _, h => by
    simp only [evs] at h
    cases h
    rfl
  | .cons a as, env, _, _, h => by
    simp only [evs] at h
    split at h
    · split at h
      · rename_i h2
        cases h
        rw [List.length_cons, evs_len h2]
        rfl
      · rename_i hn
        exact (hn _ _ h).elim
    · cases h
    · cases h
theorem pe_ls {fr : Bool} (h : PA X es (EA X C W as')) (hz : lenEs as' ≤ 1000) : PE X (.List es pos) (EV X C W fr (.lst as')) := by
  refine PE.imp (pe_lst h) fun σ H Q ⟨Z, F, env, r, h⟩ => ?_
  simp only [ev] at h
  refine ⟨Z, F, env, r, ?_⟩
  cases h1 : evs C as' env with
  | ok ds e1 =>
    rw [h1] at h
    intro F1 H1 vs s1 r1 q1
    have z : vs.length ≤ sizeLine := by rw [q1.length, evs_len h1, sizeLine_eq]; omega
    exact ⟨z, fun p hp => (out_of r1 s1 h).2.1 p _ _ rfl hp z q1⟩
  | exc c e1 => rw [h1] at h; exact h
  | stuck => rw [h1] at h; exact h.elim
def tTupF (t : TA) : TE := fun σ H Q => t σ H fun xs H1 => xs.length ≤ sizeLine ∧ ∀ p o, H1 p = none → o.dict = none → o.cls = .type "tuple" → Q (.ref p) (upd H1 p (.frz o (.tup xs)))
theorem pe_tupF {x1} {t : TA} (h : PA X es t) : PE X (.Tuple es x1 pos) (tTupF t) := by
  refine ⟨fun pins s σ H Q I hq => ?_⟩
  refine wpAny_Tuple_spliced (thn (h.run pos pins s σ H _ I hq) fun us s1 ⟨xs, H1, I1, r, z, q⟩ => ⟨by rw [← r.length]; exact z, ?_⟩)
  exact tupNew I1 r z s1.toks q
theorem pe_tp {x1} (h : PA X es (EA X C W as')) (hz : lenEs as' ≤ 1000) : PE X (.Tuple es x1 pos) (EV X C W false (.tup as')) := by
  refine PE.imp (pe_tupF h) fun σ H Q ⟨Z, F, env, r, h⟩ => ?_
  simp only [ev] at h
  refine ⟨Z, F, env, r, ?_⟩
  cases h1 : evs C as' env with
  | ok ds e1 =>
    rw [h1] at h
    intro F1 H1 vs s1 r1 q1
    have z : vs.length ≤ sizeLine := by rw [q1.length, evs_len h1, sizeLine_eq]; omega
    exact ⟨z, fun p o hp hd hcl => (out_of r1 s1 h).2.2.1 p o _ _ rfl hp z hd hcl q1⟩
  | exc c e1 => rw [h1] at h; exact h
  | stuck => rw [h1] at h; exact h.elim
/-! built-in functions -/
variable {x : Str} {q : Pos} {id T : String}
theorem pr_read {p : Pr} {fr : Bool} {σ : L2.St} {H : Hp} {Q : VK} {Z : Ent} {F : Hp} {env : Env} (r : R X.K Z F env σ H) (h : Okr (ev C (.pr p a') env) (kP X.K fr Q Z F σ) (kX X.K W Z F σ)) :
    tCB (rPr X.K p) (tCons (EO X C W a') tNil) σ H Q := by
  refine one_o (k := kP X.K fr Q Z F σ) r (fun r => match r with | .ok x e1 => ofO (dpr p x) e1 | r => r) (fun x e1 => ofO (dpr p x) e1) (fun _ _ => rfl) (fun _ _ => rfl) rfl h fun x e1 F1 H1 v h s1 r1 q1 => ?_
  obtain ⟨d, e3, h⟩ := okr_of h
  exact ⟨F1, x, v, d, rfl, r1.fh, q1, e3, out_of r1 s1 h⟩
theorem pe_prB {p : Pr} {fr : Bool} (hc : CallR X (.builtin id) (rPr X.K p)) (hg : Gl X x) (hm : X.mg x = none) (hv : bootBuiltins x = some (.builtin id)) (ha : PE X a (EO X C W a')) (hn : x ≠ "__name__") (hdb : (x == ("__debug__" : Str)) = false)
    (he : starEach [a] X.env = (false, eval a X.env) :: starEach [] X.env) : PE X (.Call (.Name x q) [a] [] pos) (EV X C W fr (.pr p a')) :=
  PE.imp (pe_callB hc hg hm hv (pa_cons ha pa_nil he) hn hdb he rfl) fun _ _ _ ⟨_, _, _, r, h⟩ => pr_read r h
theorem pe_prT {p : Pr} {fr : Bool} (hc : CallR X (.type T) (rPr X.K p)) (hg : Gl X x) (hm : X.mg x = none) (hv : bootBuiltins x = some (.type T)) (ha : PE X a (EO X C W a')) (hn : x ≠ "__name__") (hdb : (x == ("__debug__" : Str)) = false)
    (he : starEach [a] X.env = (false, eval a X.env) :: starEach [] X.env) : PE X (.Call (.Name x q) [a] [] pos) (EV X C W fr (.pr p a')) :=
  PE.imp (pe_callTy hc hg hm hv (pa_cons ha pa_nil he) hn hdb he rfl) fun _ _ _ ⟨_, _, _, r, h⟩ => pr_read r h
/-- two values, then what they give -/
theorem two_v {σ : L2.St} {H : Hp} {Z : Ent} {F : Hp} {env : Env} {R' : V → V → Hp → Prop} {k : D → Env → Prop} (r : R X.K Z F env σ H) (f : Res D → (Env → Res D) → Res D) (g : D → D → Env → Res D)
    (e0 : ∀ x e m, f (.ok x e) m = (match m e with | .ok y e2 => g x y e2 | .exc c e => .exc c e | .stuck => .stuck)) (e2 : ∀ c e m, f (.exc c e) m = .exc c e) (e3 : ∀ m, f .stuck m = .stuck)
    (h : Okr (f (ev C a' env) (ev C b')) k (kX X.K W Z F σ))
    (fin : ∀ x y e2 F2 H2 v u, Okr (g x y e2) k (kX X.K W Z F σ) → Same F F2 → R X.K Z F2 e2 σ H2 → Rep X.K F2 x v → Rep X.K F2 y u → R' v u H2) :
    EV X C W false a' σ H fun v H1 => EV X C W false b' σ H1 fun u H2 => R' v u H2 := by
  refine ⟨Z, F, env, r, ?_⟩
  cases hm : ev C a' env with
  | ok x e1 =>
    rw [hm, e0] at h
    intro F1 H1 v s1 r1 q1
    rw [Val.ff] at q1
    refine ⟨Z, F1, e1, r1, ?_⟩
    cases hm2 : ev C b' e1 with
    | ok y e2 =>
      rw [hm2] at h
      intro F2 H2 u s2 r2 q2
      rw [Val.ff] at q2
      exact fin x y e2 F2 H2 v u h (s1.trans s2) r2 (q1.mono s2) q2
    | exc c e2 => rw [hm2] at h; exact kX.mono (F := F) h s1
    | stuck => rw [hm2] at h; exact h.elim
  | exc c e1 => rw [hm, e2] at h; exact h
  | stuck => rw [hm, e3] at h; exact h.elim
theorem eta3 {α : Type} {r : Res α} {k : α → Env → Prop} {w : String → Env → Prop} : Okr (match r with | .ok a e => Res.ok a e | .exc c e => .exc c e | .stuck => .stuck) k w = Okr r k w := by cases r <;> rfl
theorem mm_read {σ : L2.St} {H : Hp} {Q : VK} {Z : Ent} {F : Hp} {env : Env} (r : R X.K Z F env σ H) (f : Int → Int → Int)
    (h : Okr (match ev C a' env with | .ok x e1 => (match ev C b' e1 with | .ok y e2 => ofO ((int? x).bind fun i => (int? y).map fun j => .int (f i j)) e2 | r => r) | r => r) (kP X.K false Q Z F σ) (kX X.K W Z F σ)) :
    tCB (fun xs H Q => ∃ i j, xs = [.int i, .int j] ∧ Q (.int (f i j)) H) (tCons (EV X C W false a') (tCons (EV X C W false b') tNil)) σ H Q := by
  refine two_v (k := kP X.K false Q Z F σ) r (fun r m => match r with | .ok x e1 => (match m e1 with | .ok y e2 => ofO ((int? x).bind fun i => (int? y).map fun j => .int (f i j)) e2 | r => r) | r => r)
    (fun x y e2 => ofO ((int? x).bind fun i => (int? y).map fun j => .int (f i j)) e2) (fun x e m => by dsimp only; cases m e <;> rfl) (fun _ _ _ => rfl) (fun _ => rfl) h fun x y e2 F2 H2 v u h s r q1 q2 => ?_
  obtain ⟨d, e3, h⟩ := okr_of h
  obtain ⟨i, e4, e5⟩ := bind_none e3
  obtain ⟨j, e6, rfl⟩ := map_none e5
  cases int?_eq e4
  cases int?_eq e6
  cases q1
  cases q2
  exact ⟨i, j, rfl, h F2 H2 _ s r (by rw [Val.ff]; exact .int _)⟩
theorem pe_mn (hc : X.calm = true) (hg : Gl X x) (hm : X.mg x = none) (hv : bootBuiltins x = some (.builtin "min")) (ha : PE X a (EV X C W false a')) (hb : PE X b (EV X C W false b')) (hn : x ≠ "__name__") (hdb : (x == ("__debug__" : Str)) = false)
    (he : starEach [a, b] X.env = (false, eval a X.env) :: starEach [b] X.env) (hf : starEach [b] X.env = (false, eval b X.env) :: starEach [] X.env) : PE X (.Call (.Name x q) [a, b] [] pos) (EV X C W false (.min2 a' b')) :=
  PE.imp (pe_callB (call_min2 hc) hg hm hv (pa_cons ha (pa_cons hb pa_nil hf) he) hn hdb he (by rw [hf]; rfl)) fun _ _ _ ⟨_, _, _, r, h⟩ => mm_read r (fun i j => if j < i then j else i) (by simp only [ev] at h; exact h)
theorem pe_mx (hc : X.calm = true) (hg : Gl X x) (hm : X.mg x = none) (hv : bootBuiltins x = some (.builtin "max")) (ha : PE X a (EV X C W false a')) (hb : PE X b (EV X C W false b')) (hn : x ≠ "__name__") (hdb : (x == ("__debug__" : Str)) = false)
    (he : starEach [a, b] X.env = (false, eval a X.env) :: starEach [b] X.env) (hf : starEach [b] X.env = (false, eval b X.env) :: starEach [] X.env) : PE X (.Call (.Name x q) [a, b] [] pos) (EV X C W false (.max2 a' b')) :=
  PE.imp (pe_callB (call_max2 hc) hg hm hv (pa_cons ha (pa_cons hb pa_nil hf) he) hn hdb he (by rw [hf]; rfl)) fun _ _ _ ⟨_, _, _, r, h⟩ => mm_read r (fun i j => if j > i then j else i) (by simp only [ev] at h; exact h)
/-! isinstance -/
/-- T or (T, ..) in the second place -/
def TyE (X : Cx) (c : Expr) (ts : List Ty) : Prop := ∃ t : TE, PE X c t ∧ ∀ σ H (Q : VK), (∀ v H', ((∃ t, ts = [t] ∧ v = .ty (tyS t) ∧ H' = H) ∨ ∃ p, v = .ref p ∧ H p = none ∧ H' = upd H p (.tup (ts.map fun t => V.ty (tyS t)))) → Q v H') → t σ H Q
theorem pe_is {ts : List Ty} (hg : Gl X x) (hm : X.mg x = none) (hv : bootBuiltins x = some (.builtin "isinstance")) (ha : PE X a (EO X C W a')) (hc : TyE X c ts) (hn : x ≠ "__name__") (hdb : (x == ("__debug__" : Str)) = false)
    (he : starEach [a, c] X.env = (false, eval a X.env) :: starEach [c] X.env) (hf : starEach [c] X.env = (false, eval c X.env) :: starEach [] X.env) : PE X (.Call (.Name x q) [a, c] [] pos) (EV X C W false (.isi a' ts)) := by
  obtain ⟨t, hct, ht⟩ := hc
  refine PE.imp (pe_callB (pr_isi ts) hg hm hv (pa_cons ha (pa_cons hct pa_nil hf) he) hn hdb he (by rw [hf]; rfl)) fun σ H Q ⟨Z, F, env, r, h⟩ => ?_
  refine one_o (k := kP X.K false Q Z F σ) r (fun r => match r with | .ok x e1 => if isDct x = true then .stuck else .ok (.bool (ts.any (isTy x))) e1 | r => r) (fun x e1 => if isDct x = true then .stuck else .ok (.bool (ts.any (isTy x))) e1) (fun _ _ => rfl) (fun _ _ => rfl) rfl h fun x e1 F1 H1 v h s1 r1 q1 => ?_
  have nd : isDct x = false := by
    cases hd : isDct x with
    | false => rfl
    | true => rw [if_pos hd] at h; exact h.elim
  rw [if_neg (by rw [nd]; exact Bool.false_ne_true)] at h
  refine ht σ H1 _ fun u H' hu => ?_
  rcases hu with ⟨t, e1, e2, e3⟩ | ⟨p, e1, e2, e3⟩
  · subst e3
    exact ⟨F1, x, v, u, rfl, r1.fh, q1, nd, .inl ⟨t, e1, e2⟩, h F1 _ _ s1 r1 (by rw [Val.ff]; exact .bl _)⟩
  · subst e3
    have r2 := r1.new (o := .tup (ts.map fun t => V.ty (tyS t))) e2
    have s2 := r1.sameNew (o := .tup (ts.map fun t => V.ty (tyS t))) e2
    refine ⟨_, x, v, u, rfl, r2.fh, ?_, nd, .inr ⟨p, e1, upd_same⟩, h _ _ _ (s1.trans s2) r2 (by rw [Val.ff]; exact .bl _)⟩
    cases q1 with
    | rep w => exact .rep (w.mono s2)
    | own w =>
      obtain ⟨o, ho⟩ := w.some
      exact .own ((w.mono s2).at fun o' e' => by rw [upd_ne (ne_of_none e' e2)]; exact e')
/-! items, parts -/
theorem ix_read {σ : L2.St} {H : Hp} {Q : VK} {Z : Ent} {F : Hp} {env : Env} (r : R X.K Z F env σ H) (h : Okr (ev C (.ix a' b') env) (kP X.K false Q Z F σ) (kX X.K W Z F σ)) :
    tOp (rIxD X.K) (EO X C W a') (EO X C W b') σ H Q := by
  refine two_o (g := fun x y e2 => ofO ((rr a' x e2).bind fun x' => dix x' y) e2) (k := kP X.K false Q Z F σ) r ?_ fun x y e1 e2 F1 F2 H2 v u m1 m2 h s1 s2 r2 q1 q2 => ?_
  · simp only [ev] at h
    cases h1 : ev C a' env with
    | ok x e1 =>
      rw [h1] at h
      simp only at h ⊢
      cases h2 : ev C b' e1 with
      | ok y e2 => rw [h2] at h; exact h
      | exc c e2 => rw [h2] at h; exact h
      | stuck => rw [h2] at h; exact h
    | exc c e1 => rw [h1] at h; exact h
    | stuck => rw [h1] at h; exact h
  · obtain ⟨d, e3, h⟩ := okr_of h
    obtain ⟨x', e4, e5⟩ := bind_none e3
    exact ⟨F2, x', y, d, r2.fh, q1.late s2 r2 e4, q2.now r2 m2, e5, fun w hw => h F2 H2 w (s1.trans s2) r2 (by rw [Val.ff]; exact hw)⟩
theorem pe_ixD (hs : PlainIx b) (hu : X.A.units + 64 < cLine) (ha : PE X a (EO X C W a')) (hb : PE X b (EO X C W b')) : PE X (.Subscript a b pos) (EV X C W false (.ix a' b')) :=
  PE.imp (pe_ix (ix_D hu) ha hb hs) fun _ _ _ ⟨_, _, _, r, h⟩ => ix_read r h
theorem pe_sl1 {fr : Bool} {p2 : Pos} (up : Bool) (ha : PE X a (EO X C W a')) (hb : PE X b (EO X C W b')) :
    PE X (.Subscript a (.Slice (if up then none else some b) (if up then some b else none) none p2) pos) (EV X C W fr (if up then .slu a' b' else .sll a' b')) := by
  cases up with
  | true =>
    simp only [if_true]
    refine PE.imp (pe_slice sl_D ha po_none (po_some hb)) fun σ H Q ⟨Z, F, env, r, h⟩ => ?_
    show EO X C W a' σ H fun x H1 => EO X C W b' σ H1 fun y H3 => ∃ i, y = .int i ∧ rSlD X.K x none (some i) H3 Q
    refine two_o (g := fun x y e2 => ofO ((rr a' x e2).bind fun x' => (int? y).bind fun j => dsl x' none (some j)) e2) (k := kP X.K fr Q Z F σ) r ?_ fun x y e1 e2 F1 F2 H2 v u m1 m2 h s1 s2 r2 q1 q2 => ?_
    · simp only [ev] at h
      cases h1 : ev C a' env with
      | ok x e1 =>
        rw [h1] at h
        simp only at h ⊢
        cases h2 : ev C b' e1 with
        | ok y e2 => rw [h2] at h; exact h
        | exc c e2 => rw [h2] at h; exact h
        | stuck => rw [h2] at h; exact h
      | exc c e1 => rw [h1] at h; exact h
      | stuck => rw [h1] at h; exact h
    · obtain ⟨d, e3, h'⟩ := okr_of h
      clear h
      obtain ⟨x', e4, e5⟩ := bind_none e3
      obtain ⟨j, e6, e7⟩ := bind_none e5
      cases int?_eq e6
      cases (q2.now r2 m2).int
      exact ⟨j, rfl, F2, x', d, r2.fh, q1.late s2 r2 e4, e7, out_of r2 (s1.trans s2) h'⟩
  | false =>
    simp only [if_false, Bool.false_eq_true]
    refine PE.imp (pe_slice sl_D ha (po_some hb) po_none) fun σ H Q ⟨Z, F, env, r, h⟩ => ?_
    show EO X C W a' σ H fun x H1 => EO X C W b' σ H1 fun y H3 => ∃ i, y = .int i ∧ rSlD X.K x (some i) none H3 Q
    refine two_o (g := fun x y e2 => ofO ((rr a' x e2).bind fun x' => (int? y).bind fun j => dsl x' (some j) none) e2) (k := kP X.K fr Q Z F σ) r ?_ fun x y e1 e2 F1 F2 H2 v u m1 m2 h s1 s2 r2 q1 q2 => ?_
    · simp only [ev] at h
      cases h1 : ev C a' env with
      | ok x e1 =>
        rw [h1] at h
        simp only at h ⊢
        cases h2 : ev C b' e1 with
        | ok y e2 => rw [h2] at h; exact h
        | exc c e2 => rw [h2] at h; exact h
        | stuck => rw [h2] at h; exact h
      | exc c e1 => rw [h1] at h; exact h
      | stuck => rw [h1] at h; exact h
    · obtain ⟨d, e3, h'⟩ := okr_of h
      clear h
      obtain ⟨x', e4, e5⟩ := bind_none e3
      obtain ⟨j, e6, e7⟩ := bind_none e5
      cases int?_eq e6
      cases (q2.now r2 m2).int
      exact ⟨j, rfl, F2, x', d, r2.fh, q1.late s2 r2 e4, e7, out_of r2 (s1.trans s2) h'⟩
theorem pe_sl2 {fr : Bool} {p2 : Pos} (ha : PE X a (EO X C W a')) (hb : PE X b (EV X C W false b')) (hc : PE X c (EV X C W false c')) :
    PE X (.Subscript a (.Slice (some b) (some c) none p2) pos) (EV X C W fr (.slb a' b' c')) := by
  refine PE.imp (pe_slice sl_D ha (po_some hb) (po_some hc)) fun σ H Q ⟨Z, F, env, r, h⟩ => ?_
  show EO X C W a' σ H fun x H1 => EV X C W false b' σ H1 fun y H3 => ∃ i, y = .int i ∧ EV X C W false c' σ H3 fun z H4 => ∃ j, z = .int j ∧ rSlD X.K x (some i) (some j) H4 Q
  simp only [ev] at h
  refine ⟨Z, F, env, r, ?_⟩
  cases h1 : ev C a' env with
  | ok x e1 =>
    rw [h1] at h
    intro F1 H1 v s1 r1 q1
    refine ⟨Z, F1, e1, r1, ?_⟩
    simp only at h
    cases h2 : ev C b' e1 with
    | ok y e2 =>
      rw [h2] at h
      intro F2 H2 u s2 r2 q2
      rw [Val.ff] at q2
      simp only at h
      cases h3 : int? y with
      | none => rw [h3] at h; exact h.elim
      | some j =>
        rw [h3] at h
        cases int?_eq h3
        cases q2
        refine ⟨j, rfl, Z, F2, e2, r2, ?_⟩
        simp only at h
        cases h4 : ev C c' e2 with
        | ok z e3 =>
          rw [h4] at h
          intro F3 H3 w s3 r3 q3
          rw [Val.ff] at q3
          obtain ⟨d, e4, h'⟩ := okr_of h
          clear h
          obtain ⟨x', e5, e6⟩ := bind_none e4
          obtain ⟨l, e7, e8⟩ := bind_none e6
          cases int?_eq e7
          cases q3
          exact ⟨l, rfl, F3, x', d, r3.fh, q1.late (s2.trans s3) r3 e5, e8, out_of r3 ((s1.trans s2).trans s3) h'⟩
        | exc c e3 => rw [h4] at h; exact kX.mono (F := F) h (s1.trans s2)
        | stuck => rw [h4] at h; exact h.elim
    | exc c e2 => rw [h2] at h; exact kX.mono (F := F) h s1
    | stuck => rw [h2] at h; exact h.elim
  | exc c e1 => rw [h1] at h; exact h
  | stuck => rw [h1] at h; exact h.elim
end
end BT
namespace BT
open PySem PySem.Spec PyProof.Rows L2
section
variable {X : Cx} {C : Calls} {W : WX} {a b c e : Expr} {es : List Expr} {a' b' c' : IE} {as' : IEs} {pos : Pos}
/-! x[::-1] -/
def rRevD (K : PySem.W.Frag) : V → Hp → VK → Prop := fun x H Q => ∃ F dx d, Same F H ∧ RepT K F H dx x ∧ drev dx = some d ∧ OutV K F H d Q
theorem pe_revD {te : TE} {k : Nat} {p1 p2 p3 : Pos} (he : PE X e te) : PE X (.Subscript e (.Slice none none (some (.UnaryOp .USub (.Constant (.int 1) k p1) p2)) p3) pos) (fun σ H Q => te σ H fun x H1 => rRevD X.K x H1 Q) := by
  refine ⟨fun pins s σ H Q I h => ?_⟩
  refine Subscript_ (thn (he.run pins s σ H _ I h) fun v s1 ⟨x, H1, I1, r1, q1⟩ => ?_)
  have hst : PO X (some (.UnaryOp .USub (.Constant (.int 1) k p1) p2)) (tPart (tUn (rU fun i => .int (-i)) (tC (.int 1)))) := po_some (pe_un un_neg pe_int)
  refine wpAny_Slice (thn (po_none.run pins s1 σ H1 (fun o H2 => o = none ∧ H2 = H1) I1 ⟨rfl, rfl⟩) fun vl s2 ⟨l, H2, I2, pl, el, e2⟩ => ?_)
  subst el e2
  refine thn (po_none.run pins s2 σ H2 (fun o H3 => o = none ∧ H3 = H2) I2 ⟨rfl, rfl⟩) fun vu s3 ⟨u, H3, I3, pu, eu, e3⟩ => ?_
  subst eu e3
  refine thn (hst.run pins s3 σ H3 (fun o H4 => o = some (-1) ∧ H4 = H3) I3 ⟨1, rfl, -1, rfl, rfl, rfl⟩) fun vs s4 ⟨o, H4, I4, ps, eo, e4⟩ => ?_
  subst eo e4
  have I5 : Inv X pins σ H4 { s4 with heap := s4.heap.push { cls := .type "slice", data := .fields #[vl, vu, vs] } } := I4.kept (t' := s4.toks) fun b ob q => Heap.get?_push_of_some _ q
  obtain ⟨F, dx, d, sf, hx, ed, ou⟩ := q1
  have hs5 := Heap.IsSliceOf.new s4.heap vl vu vs
  cases dx with
  | list ds =>
    cases ed
    obtain ⟨a, xs, rfl, ha, ra⟩ := hx.list sf
    cases r1
    obtain ⟨its, r, ht, hz⟩ := I5.list ha.sq
    show wpAny (model X.prog X.w) X.A (subscriptTail e (.Slice none none (some (.UnaryOp .USub (.Constant (.int 1) k p1) p2)) p3) (.ref a) (.ref s4.heap.objs.size)) (EP X pins σ Q) X.xe { s4 with heap := s4.heap.push { cls := .type "slice", data := .fields #[vl, vu, vs] } }
    refine tail_any (ops := [.ref a, .ref s4.heap.objs.size]) ht.isList.typeIs (PySem.slot_list_getitem.lookup) ?_ (by with_unfolding_all rfl)
    refine wpAny_getItem_list_slice ht.isList hs5 pl pu ps (by decide) ?_ (by rw [List.size_toArray, ← r.length]; exact hz)
    rw [PySem.W.krv_pick]
    exact lstNew I5 r.reverse (by rw [List.length_reverse]; exact hz) s4.toks fun p hp => ou.2.1 p _ _ rfl hp (by rw [List.length_reverse]; exact hz) ra.reverse
  | tuple ds =>
    cases ed
    obtain ⟨a, xs, rfl, ha, ra⟩ := hx.tuple
    cases r1
    obtain ⟨its, r, ht, hz⟩ := I5.tuple (ha.mono sf).sq
    show wpAny (model X.prog X.w) X.A (subscriptTail e (.Slice none none (some (.UnaryOp .USub (.Constant (.int 1) k p1) p2)) p3) (.ref a) (.ref s4.heap.objs.size)) (EP X pins σ Q) X.xe { s4 with heap := s4.heap.push { cls := .type "slice", data := .fields #[vl, vu, vs] } }
    refine tail_any (ops := [.ref a, .ref s4.heap.objs.size]) ht.typeIs PyProof.Rows.slot_tuple_getitem.lookup ?_ (by with_unfolding_all rfl)
    refine getItem_tuple_rev ht hs5 pl pu ps ?_ (by rw [List.size_toArray, ← r.length]; exact hz)
    exact tupNew I5 r.reverse (by rw [List.length_reverse]; exact hz) s4.toks fun p ob hp hd hcl => ou.2.2.1 p ob _ _ rfl hp (by rw [List.length_reverse]; exact hz) hd hcl ra.reverse
  | _ => cases ed
theorem pe_rv {fr : Bool} {k : Nat} {p1 p2 p3 : Pos} (ha : PE X a (EO X C W a')) : PE X (.Subscript a (.Slice none none (some (.UnaryOp .USub (.Constant (.int 1) k p1) p2)) p3) pos) (EV X C W fr (.rev a')) :=
  PE.imp (pe_revD ha) fun σ H Q ⟨Z, F, env, r, h⟩ => one_o (k := kP X.K fr Q Z F σ) r (fun r => match r with | .ok x e1 => ofO (drev x) e1 | r => r) (fun x e1 => ofO (drev x) e1) (fun _ _ => rfl) (fun _ _ => rfl) rfl h fun x e1 F1 H1 v h s1 r1 q1 => by
    obtain ⟨d, e3, h⟩ := okr_of h
    exact ⟨F1, x, d, r1.fh, q1, e3, out_of r1 s1 h⟩
/-! methods of lists and tuples -/
/-- a method of a built-in type, the object's class told by what it stands for -/
theorem pe_mt {o : Expr} {to : TE} {t : TA} {name : Str} {apos cpos : Pos} {r : V → List V → Hp → VK → Prop} (ho : PE X o to) (ha : PA X (e :: es) t)
    (tk : V → Hp → Prop) (htk : ∀ (pins : List (Addr × Obj)) (s : Shared) (σ : L2.St) (H : Hp) (x : V) (v : Value), Inv X pins σ H s → RelV x v → tk x H →
      ∃ T id, PlainAttrs T ∧ PySem.Slot T name id ∧ typeOf (.builtin id) = pure (.type "method_descriptor") ∧ s.TypeIs v T ∧ (∀ a, v = .ref a → ∃ ob, s.heap.get? a = some ob ∧ ob.dict = none) ∧
        ∀ (pins : List (Addr × Obj)) (s2 : Shared) (σ : L2.St) (H2 : Hp) (xs : List V) (us : List Value) (Q : VK), Inv X pins σ H2 s2 → Vals xs us → r x xs H2 Q → wpAny (model X.prog X.w) X.A (call (.builtin id) (v :: us)) (EP X pins σ Q) X.xe s2)
    (hbase : attributeBase o name X.env (eval o X.env) = eval o X.env)
    (hfew : ((backTo cpos (starEach (e :: es) X.env)).all (fun x => !x.1) && (backToKw cpos (keywordEach [] X.env)).all (fun x => x.1.isSome)
      && decide ((e :: es).length + ([] : List Keyword).length + (if ([] : List Keyword).isEmpty then 0 else 1) < 30)) = true)
    (hline : (apos.endLine == cpos.line) = true) (hs : starEach (e :: es) X.env = (false, eval e X.env) :: starEach es X.env) (hplain : (backTo cpos (starEach es X.env)).any (·.1) = false) :
    PE X (.Call (.Attribute o name apos) (e :: es) [] cpos) (fun σ H Q => to σ H fun x H1 => tk x H1 ∧ t σ H1 fun xs H2 => r x xs H2 Q) := by
  refine ⟨fun pins s σ H Q I h => ?_⟩
  refine wpAny_Call_method_late hbase hfew hline rfl (thn (ho.run pins s σ H _ I h) fun v s1 ⟨x, H1, I1, r1, ty, q1⟩ => ?_)
  obtain ⟨T, id, pa, sl, hty, h1, h2, hgo⟩ := htk pins s1 σ H1 x v I1 r1 ty
  refine ⟨T, id, pa, sl, hty, h1, h2, ?_⟩
  have hA := ha.run cpos pins s1 σ H1 _ I1 q1
  rw [hs] at hA ⊢
  refine Calls.callWith_builtin (by show (false || (backTo cpos (starEach es X.env)).any (·.1)) = false; rw [hplain] <;> rfl) (Calls.evalArgs_plain ?_)
  exact thn hA fun us s2 ⟨vs, H2, I2, r2, q2⟩ => hgo pins s2 σ H2 vs us Q I2 r2 q2
theorem TupAt.obj {pins : List (Addr × Obj)} {s : Shared} {σ : L2.St} {H : Hp} {a : Addr} {xs : List V} (I : Inv X pins σ H s) (h : TupAt X.K H a xs) : s.TypeIs (.ref a) "tuple" ∧ ∃ ob, s.heap.get? a = some ob ∧ ob.dict = none := by
  rcases h.2 with ⟨o, e, d, c⟩ | ⟨o, its, n, e, c, d, _⟩
  · have ho := (I.hok a _ e).1
    exact ⟨⟨o, ho, c⟩, o, ho, d⟩
  · exact ⟨⟨o, I.kIn a o e, c⟩, o, I.kIn a o e, d⟩
def rIdx (K : PySem.W.Frag) : V → List V → Hp → VK → Prop := fun x vs H Q => ∃ (a : Addr) (ns : List Int) (k : Int), x = .ref a ∧ vs = [.int k] ∧ TupAt K H a (ns.map V.int) ∧ k ∈ ns ∧ Q (.int (ns.idxOf k : Nat)) H
theorem idx_items {A : Around} {s : Shared} {k : Int} {t : Tok} : ∀ {ns : List Int} {us : List Value}, Vals (ns.map V.int) us → PySem.SeqAt.ItemsEq A s us ns (.int k t) k := by
  intro ns us h
  refine ⟨by rw [← h.length, List.length_map], fun j h1 h2 => ?_⟩
  have e1 : (ns.map V.int)[j]? = some (V.int ns[j]) := by rw [List.getElem?_map, List.getElem?_eq_getElem h2]; rfl
  obtain ⟨u, e2, r⟩ := h.get e1
  rw [List.getElem?_eq_getElem h1] at e2
  cases e2
  obtain ⟨t', e3⟩ := r
  rw [e3]
  have := PySem.SeqAt.EqAt.int_int (A := A) (s := s) ns[j] t' k t
  have e4 : (ns[j] == k) = decide (ns[j] = k) := by
    by_cases h : ns[j] = k
    · rw [h]; simp
    · rw [decide_eq_false h]; exact beq_eq_false_iff_ne.mpr h
  rwa [e4] at this
theorem idx_tk (pins : List (Addr × Obj)) (s : Shared) (σ : L2.St) (H : Hp) (x : V) (v : Value) (I : Inv X pins σ H s) (rx : RelV x v) (h : ∃ a xs, x = .ref a ∧ TupAt X.K H a xs) :
    ∃ T id, PlainAttrs T ∧ PySem.Slot T "index" id ∧ typeOf (.builtin id) = pure (.type "method_descriptor") ∧ s.TypeIs v T ∧ (∀ a, v = .ref a → ∃ ob, s.heap.get? a = some ob ∧ ob.dict = none) ∧
        ∀ (pins : List (Addr × Obj)) (s2 : Shared) (σ : L2.St) (H2 : Hp) (xs : List V) (us : List Value) (Q : VK), Inv X pins σ H2 s2 → Vals xs us → rIdx X.K x xs H2 Q → wpAny (model X.prog X.w) X.A (call (.builtin id) (v :: us)) (EP X pins σ Q) X.xe s2 := by
  obtain ⟨a, xs, rfl, ha⟩ := h
  cases rx
  obtain ⟨h1, h2⟩ := ha.obj I
  refine ⟨"tuple", "tuple.index", PySem.F.plainAttrs_tuple, PySem.F.slot_tuple_index, PySem.F.type_tuple_index, h1, fun b e => by cases e; exact h2, ?_⟩
  intro pins s2 σ H2 ys us Q I2 rv hq
  obtain ⟨b, ns, k, e, e2, hb, hk, q⟩ := hq
  cases e
  subst e2
  obtain ⟨u, rfl, ru⟩ := rv.one
  obtain ⟨t, rfl⟩ := ru
  obtain ⟨its, r, ht, hz⟩ := I2.tuple hb.sq
  exact PySem.SeqAt.call_tuple_index ht (idx_items r) hk ⟨.int _, H2, I2.tok _, ⟨_, rfl⟩, q⟩
theorem pe_index {o : Expr} {apos cpos : Pos} (ho : PE X o (EV X C W false a')) (hb : PE X b (EV X C W false b'))
    (hbase : attributeBase o "index" X.env (eval o X.env) = eval o X.env)
    (hfew : ((backTo cpos (starEach [b] X.env)).all (fun x => !x.1) && (backToKw cpos (keywordEach [] X.env)).all (fun x => x.1.isSome)
      && decide ([b].length + ([] : List Keyword).length + (if ([] : List Keyword).isEmpty then 0 else 1) < 30)) = true)
    (hline : (apos.endLine == cpos.line) = true) (hs : starEach [b] X.env = (false, eval b X.env) :: starEach [] X.env) (hplain : (backTo cpos (starEach [] X.env)).any (·.1) = false) :
    PE X (.Call (.Attribute o "index" apos) [b] [] cpos) (EV X C W false (.index a' b')) := by
  refine PE.imp (pe_mt (r := rIdx X.K) ho (pa_cons hb pa_nil hs) _ idx_tk hbase hfew hline hs hplain) fun σ H Q ⟨Z, F, env, r, h⟩ => ?_
  simp only [ev] at h
  refine ⟨Z, F, env, r, ?_⟩
  cases h1 : ev C a' env with
  | ok x e1 =>
    rw [h1] at h
    simp only at h
    intro F1 H1 v s1 r1 q1
    rw [Val.ff] at q1
    split at h
    · rename_i hx
      cases q1 with
      | tup ha ra =>
        refine ⟨⟨_, _, rfl, ha.mono r1.fh⟩, Z, F1, e1, r1, ?_⟩
        cases h2 : ev C b' e1 with
        | ok y e2 =>
          rw [h2] at h
          intro F2 H2 u s2 r2 q2
          rw [Val.ff] at q2
          obtain ⟨d, e3, h⟩ := okr_of h
          obtain ⟨xs, e4, e5⟩ := bind_none e3
          cases e4
          obtain ⟨ns, e6, e7⟩ := bind_none e5
          obtain ⟨k, e8, e9⟩ := bind_none e7
          cases int?_eq e8
          cases q2
          rw [ints?_eq e6] at ra
          rw [ra.ofInts] at ha
          split at e9
          · rename_i hk
            cases e9
            exact ⟨_, ns, k, rfl, rfl, (ha.mono s2).mono r2.fh, hk, h F2 H2 _ (s1.trans s2) r2 (by rw [Val.ff]; exact .int _)⟩
          · cases e9
        | exc c e2 => rw [h2] at h; exact kX.mono (F := F) h s1
        | stuck => rw [h2] at h; exact h.elim
      | _ => cases hx
    · exact h.elim
  | exc c e1 => rw [h1] at h; exact h
  | stuck => rw [h1] at h; exact h.elim
/-! a place's list changed -/
theorem own_list {Z : Ent} {F H : Hp} {env : Env} {σ : L2.St} {i : Nat} {xs : List D} (r : R X.K Z F env σ H) (h : ownD (slot env i) = some (.list xs)) :
    ∃ a vs, σ[i]? = some (some (.ref a)) ∧ H a = some (.lst vs) ∧ vs.length ≤ sizeLine ∧ Reps X.K F xs vs := by
  obtain ⟨a, e1, q, _⟩ := r.ow i _ _ (slot_ownD h) h
  obtain ⟨vs, e, z, rr⟩ := q
  exact ⟨a, vs, e1, e, z, rr⟩
theorem ownL_some {x : BT.Slot} (h : ownL x = true) : ∃ xs, ownD x = some (.list xs) := by
  unfold ownL at h
  split at h
  · rename_i xs e; exact ⟨xs, e⟩
  · cases h
theorem own_ty {Z : Ent} {F H : Hp} {env : Env} {σ : L2.St} {i : Nat} (r : R X.K Z F env σ H) (h : ownL (slot env i) = true) : ∃ a, σ[i]? = some (some (.ref a)) ∧ tyV X.K "list" (.ref a) H := by
  obtain ⟨d, e⟩ := ownL_some h
  obtain ⟨a, vs, e1, e2, _⟩ := own_list r e
  exact ⟨a, e1, .inl ⟨rfl, vs, .inl (.inl e2)⟩⟩
theorem own_ref {Z : Ent} {F H : Hp} {env : Env} {σ : L2.St} {i : Nat} (r : R X.K Z F env σ H) (h : (ownD (slot env i)).isSome = true) : ∃ a, σ[i]? = some (some (.ref a)) := by
  obtain ⟨d, e⟩ := Option.isSome_iff_exists.mp h
  obtain ⟨a, e1, q, _⟩ := r.ow i _ _ (slot_ownD e) e
  exact ⟨a, e1⟩
theorem own_put {Z : Ent} {F H : Hp} {env : Env} {σ : L2.St} {i : Nat} {d : D} {a : Addr} {ys : List D} {ws : List V} (r : R X.K Z F env σ H) (h : ownD (slot env i) = some d) (ha : σ[i]? = some (some (.ref a))) (z : ws.length ≤ sizeLine) (q : Reps X.K F ys ws) :
    R X.K Z F (env.set i (reOwn (slot env i) (.list ys))) σ (upd H a (.lst ws)) := r.mut h ha ⟨ws, upd_same, z, q⟩
section
variable {o : Expr} {apos cpos : Pos} {i : Nat}
theorem pe_app (ho : PE X o (tVar i)) (hb : PE X b (EV X C W false b'))
    (hbase : attributeBase o "append" X.env (eval o X.env) = eval o X.env)
    (hfew : ((backTo cpos (starEach [b] X.env)).all (fun x => !x.1) && (backToKw cpos (keywordEach [] X.env)).all (fun x => x.1.isSome)
      && decide ([b].length + ([] : List Keyword).length + (if ([] : List Keyword).isEmpty then 0 else 1) < 30)) = true)
    (hline : (apos.endLine == cpos.line) = true) (hs : starEach [b] X.env = (false, eval b X.env) :: starEach [] X.env) (hplain : (backTo cpos (starEach [] X.env)).any (·.1) = false) {σ : L2.St} {H : Hp} {Z : Ent} {F : Hp} {env : Env} {Q : Hp → Prop} (r : R X.K Z F env σ H)
    (h : Okr (exec C (.app i b') env) (fun f e => f = .next ∧ ∀ F' H', Same F F' → R X.K Z F' e σ H' → Q H') (kX X.K W Z F σ)) (pins : List (Addr × Obj)) (s : Shared) (I : Inv X pins σ H s) :
    wpAny (model X.prog X.w) X.A (eval (.Call (.Attribute o "append" apos) [b] [] cpos) X.env) (EP X pins σ fun _ H => Q H) X.xe s := by
  refine (pe_bm PySem.F.plainAttrs_list PySem.F.slot_list_append PySem.F.type_list_append mt_append ho (pa_cons hb pa_nil hs) hbase hfew hline hs hplain).run pins s σ H _ I ?_
  simp only [exec] at h
  split at h
  · rename_i hi
    obtain ⟨a, e1, ty⟩ := own_ty r hi
    refine ⟨.ref a, e1, ty, Z, F, env, r, ?_⟩
    cases h1 : ev C b' env with
    | ok y e2 =>
      rw [h1] at h
      simp only at h
      intro F1 H1 v s1 r1 q1
      rw [Val.ff] at q1
      split at h
      · rename_i xs hx
        split at h
        · rename_i hz
          have hz : xs.length < big := of_decide_eq_true hz
          obtain ⟨h, q⟩ := h
          obtain ⟨a', vs, e3, e4, z, rr⟩ := own_list r1 hx
          rw [e1] at e3
          cases e3
          have hl := rr.length
          have hb := big_le
          exact ⟨a, vs, v, rfl, rfl, e4, by omega, q F1 _ s1 (own_put r1 hx e1 (by rw [List.length_append, List.length_singleton]; omega) (rr.snoc q1))⟩
        · exact h.elim
      · exact h.elim
    | exc c e2 => rw [h1] at h; exact h
    | stuck => rw [h1] at h; exact h.elim
  · exact h.elim
theorem pe_popAt (ho : PE X o (tVar i)) (hb : PE X b (EV X C W false b'))
    (hbase : attributeBase o "pop" X.env (eval o X.env) = eval o X.env)
    (hfew : ((backTo cpos (starEach [b] X.env)).all (fun x => !x.1) && (backToKw cpos (keywordEach [] X.env)).all (fun x => x.1.isSome)
      && decide ([b].length + ([] : List Keyword).length + (if ([] : List Keyword).isEmpty then 0 else 1) < 30)) = true)
    (hline : (apos.endLine == cpos.line) = true) (hs : starEach [b] X.env = (false, eval b X.env) :: starEach [] X.env) (hplain : (backTo cpos (starEach [] X.env)).any (·.1) = false) :
    PE X (.Call (.Attribute o "pop" apos) [b] [] cpos) (EV X C W false (.popI i b')) := by
  refine PE.imp (pe_bm PySem.F.plainAttrs_list PySem.F.slot_list_pop PySem.F.type_list_pop mt_popAt ho (pa_cons hb pa_nil hs) hbase hfew hline hs hplain) fun σ H Q ⟨Z, F, env, r, h⟩ => ?_
  simp only [ev] at h
  split at h
  · rename_i hi
    obtain ⟨a, e1, ty⟩ := own_ty r hi
    refine ⟨.ref a, e1, ty, Z, F, env, r, ?_⟩
    cases h1 : ev C b' env with
    | ok y e2 =>
      rw [h1] at h
      simp only at h
      intro F1 H1 v s1 r1 q1
      rw [Val.ff] at q1
      split at h
      · rename_i xs j hx
        split at h
        · rename_i y hy
          split at h
          · rename_i hj
            obtain ⟨a', vs, e3, e4, z, rr⟩ := own_list r1 hx
            rw [e1] at e3
            cases e3
            cases q1
            have hl := rr.length
            have hy2 : xs[j.toNat]? = some y ∧ j < xs.length := by
              unfold atD at hy
              rw [if_pos hj] at hy
              split at hy
              · rename_i h2; exact ⟨hy, h2⟩
              · cases hy
            obtain ⟨v, hv, qv⟩ := rr.get hy2.1
            have hjl : j.toNat < vs.length := by omega
            rw [sizeLine_eq] at z
            have hp : vs.length ≤ sizeLine := by rw [sizeLine_eq]; exact z
            refine ⟨a, vs, j, j.toNat, v, rfl, rfl, e4, by omega, by omega, ?_, hv, h F1 _ v s1 (own_put r1 hx e1 (Nat.le_trans (len_erase _ _) hp) (rr.eraseIdx _)) (by rw [Val.ff]; exact qv)⟩
            unfold seqIndex?
            simp only [if_neg (show ¬ j < 0 by omega)]
            rw [if_pos (by rw [Bool.and_eq_true]; exact ⟨decide_eq_true hj, decide_eq_true (by omega)⟩)]
          · exact h.elim
        · exact h.elim
      · exact h.elim
    | exc c e2 => rw [h1] at h; exact h
    | stuck => rw [h1] at h; exact h.elim
  · exact h.elim
theorem pe_pop0 (ho : PE X o (tVar i)) (hbase : attributeBase o "pop" X.env (eval o X.env) = eval o X.env) (hline : (apos.endLine == cpos.line) = true) :
    PE X (.Call (.Attribute o "pop" apos) [] [] cpos) (EV X C W false (.pop i)) := by
  refine PE.imp (pe_bm0 PySem.F.plainAttrs_list PySem.F.slot_list_pop PySem.F.type_list_pop mt_pop ho hbase hline) fun σ H Q ⟨Z, F, env, r, h⟩ => ?_
  simp only [ev] at h
  split at h
  · rename_i xs hx
    split at h
    · rename_i y hy
      obtain ⟨a, vs, e3, e4, z, rr⟩ := own_list r hx
      obtain ⟨a', e1, ty⟩ := own_ty r (by unfold ownL; rw [hx])
      rw [e3] at e1
      cases e1
      rw [List.getLast?_eq_getElem?] at hy
      obtain ⟨v, hv, qv⟩ := rr.get hy
      refine ⟨.ref a, e3, ty, a, vs, v, rfl, rfl, e4, by rw [rr.length]; exact hv, ?_⟩
      exact h F _ v (Same.refl F) (own_put r hx e3 (by rw [List.length_dropLast]; omega) rr.dropLast) (by rw [Val.ff]; exact qv)
    · exact h.elim
  · exact h.elim
end
end
end BT
namespace BT
open PySem PySem.Spec PyProof.Rows L2
/-! ## list(range(..)), tuple(range(..)) -/
theorem reps_rg {K : PySem.W.Frag} {F : Hp} (a b : Int) : Reps K F (rngL a (b - a).toNat) (rgV a b) := by
  unfold rngL rgV
  have h : ∀ l : List Nat, Reps K F (l.map fun i : Nat => PyData.int (a + (i : Int))) (l.map fun i : Nat => V.int (a + (i : Nat))) := fun l => by
    induction l with
    | nil => exact .nil
    | cons x l ih => exact .cons (.int _) ih
  exact h _
theorem smallR_iff {n : Int} (h : smallR n = true) : -1000000 ≤ n ∧ n ≤ 1000000 := of_decide_eq_true h
theorem rgTwo {m n : Int} (h1 : smallR m = true) (h2 : smallR n = true) : RgOk m n := by
  have := smallR_iff h1
  have := smallR_iff h2
  exact ⟨by omega, by omega, by omega, by omega, by omega⟩
theorem rg_len {a b : Int} (h : RgOk a b) : (rgV a b).length ≤ sizeLine := by
  rw [rgV_length, sizeLine_eq]
  have := h.2.2.2.2
  omega
section
variable {X : Cx} {C : Calls} {W : WX} {a b c e : Expr} {es : List Expr} {a' b' c' : IE} {as' : IEs} {pos p p2 pos2 : Pos}
theorem pe_lrg {fr : Bool} (hc : X.calm = true) (hgl : Gl X "list") (hml : X.mg "list" = none) (hgr : Gl X "range") (hmr : X.mg "range" = none) (ha : PE X a (EV X C W false a'))
    (na : starEach [a] X.env = (false, eval a X.env) :: starEach [] X.env) (nb : starEach [.Call (.Name "range" p2) [a] [] pos2] X.env = (false, eval (.Call (.Name "range" p2) [a] [] pos2) X.env) :: starEach [] X.env) :
    PE X (.Call (.Name "list" p) [.Call (.Name "range" p2) [a] [] pos2] [] pos) (EV X C W fr (.lrg a')) := by
  refine PE.imp (pe_listRg hc hgl hml (prg_1 hgr hmr ha na) nb) fun σ H Q ⟨Z, F, env, r, h⟩ => ?_
  refine one_v (k := kP X.K fr Q Z F σ) r (fun r => match r with | .ok x e1 => ofO ((int? x).bind fun n => if smallR n then some (.list (rngL 0 n.toNat)) else none) e1 | r => r) (fun x e1 => ofO ((int? x).bind fun n => if smallR n then some (.list (rngL 0 n.toNat)) else none) e1)
    (fun _ _ => rfl) (fun _ _ => rfl) rfl (by simp only [ev] at h; exact h) fun x e1 F1 H1 v h s1 r1 q1 => ?_
  obtain ⟨d, e3, h⟩ := okr_of h
  obtain ⟨n, e4, e5⟩ := bind_none e3
  cases int?_eq e4
  cases q1
  split at e5
  · rename_i hz
    cases e5
    have ok := rgTwo (m := 0) (n := n) (by decide) hz
    have rr := reps_rg (K := X.K) (F := F1) 0 n
    rw [Int.sub_zero] at rr
    exact ⟨n, rfl, ok, fun q hq => (out_of r1 s1 h).2.1 q _ _ rfl hq (rg_len ok) rr⟩
  · cases e5
theorem pe_lrg2 {fr : Bool} (hc : X.calm = true) (hgl : Gl X "list") (hml : X.mg "list" = none) (hgr : Gl X "range") (hmr : X.mg "range" = none) (ha : PE X a (EV X C W false a')) (hb : PE X b (EV X C W false b'))
    (na : starEach [a, b] X.env = (false, eval a X.env) :: starEach [b] X.env) (nc : starEach [b] X.env = (false, eval b X.env) :: starEach [] X.env) (hp : (backTo pos2 (starEach [b] X.env)).any (·.1) = false)
    (nb : starEach [.Call (.Name "range" p2) [a, b] [] pos2] X.env = (false, eval (.Call (.Name "range" p2) [a, b] [] pos2) X.env) :: starEach [] X.env) :
    PE X (.Call (.Name "list" p) [.Call (.Name "range" p2) [a, b] [] pos2] [] pos) (EV X C W fr (.lrg2 a' b')) := by
  refine PE.imp (pe_listRg hc hgl hml (prg_2 hgr hmr ha hb na nc hp) nb) fun σ H Q ⟨Z, F, env, r, h⟩ => ?_
  refine two_v (k := kP X.K fr Q Z F σ) r (fun r m => match r with
    | .ok x e1 => match m e1 with
      | .ok y e2 => ofO ((int? x).bind fun m => (int? y).bind fun n => if smallR m && smallR n then some (.list (rngL m (n - m).toNat)) else none) e2
      | r => r
    | r => r) (fun x y e2 => ofO ((int? x).bind fun m => (int? y).bind fun n => if smallR m && smallR n then some (.list (rngL m (n - m).toNat)) else none) e2)
    (fun x e m => by simp only; cases m e <;> rfl) (fun _ _ _ => rfl) (fun _ => rfl) (by simp only [ev] at h; exact h) fun x y e2 F2 H2 v u h s1 r1 q1 q2 => ?_
  obtain ⟨d, e3, h⟩ := okr_of h
  obtain ⟨m, e4, e5⟩ := bind_none e3
  obtain ⟨n, e6, e7⟩ := bind_none e5
  cases int?_eq e4
  cases int?_eq e6
  cases q1
  cases q2
  split at e7
  · rename_i hz
    cases e7
    rw [Bool.and_eq_true] at hz
    have ok := rgTwo hz.1 hz.2
    exact ⟨m, n, rfl, rfl, ok, fun q hq => (out_of r1 s1 h).2.1 q _ _ rfl hq (rg_len ok) (reps_rg m n)⟩
  · cases e7
def tTupRgF (te : L2.St → Hp → (Int → Int → Hp → Prop) → Prop) : TE := fun σ H Q => te σ H fun a b H1 => RgOk a b ∧ ∀ q o, H1 q = none → o.dict = none → o.cls = .type "tuple" → Q (.ref q) (upd H1 q (.frz o (.tup (rgV a b))))
theorem pe_tupRgF {te : L2.St → Hp → (Int → Int → Hp → Prop) → Prop} (hc : X.calm = true) (hg : Gl X "tuple") (hm : X.mg "tuple" = none) (he : PRg X e te) (na : starEach [e] X.env = (false, eval e X.env) :: starEach [] X.env) : PE X (.Call (.Name "tuple" p) [e] [] pos) (tTupRgF te) := by
  refine ⟨fun pins s σ H Q I h => Call_ (ld_blt I hg hm boot_tuple (PyProof.Rows.callWith_type1 (args_cons (thn (he pins s σ H _ I h) fun x s1 ⟨r, a, b, t, u, v, H1, ex, hr, I1, ok, q⟩ => args_nil ?_) na) na))⟩
  subst ex
  refine call_tuple_range (n := (b - a).toNat) (I1.ok.hd hc) hr (small_one ok.1 ok.2.1 ok.2.2.1 ok.2.2.2.1) (rangeSize_nat a b) ok.2.2.2.2 fun h' tk acc hk hi => ?_
  have I2 : Inv X pins σ H1 { s1 with heap := h', toks := tk } := I1.kept hk
  have hn := tupNew I2 (vals_rg hi) (rg_len ok) tk fun p o hp hd hcl => q p o hp hd hcl
  rw [Array.toArray_toList] at hn
  exact hn
theorem pe_trg (hc : X.calm = true) (hgl : Gl X "tuple") (hml : X.mg "tuple" = none) (hgr : Gl X "range") (hmr : X.mg "range" = none) (ha : PE X a (EV X C W false a'))
    (na : starEach [a] X.env = (false, eval a X.env) :: starEach [] X.env) (nb : starEach [.Call (.Name "range" p2) [a] [] pos2] X.env = (false, eval (.Call (.Name "range" p2) [a] [] pos2) X.env) :: starEach [] X.env) :
    PE X (.Call (.Name "tuple" p) [.Call (.Name "range" p2) [a] [] pos2] [] pos) (EV X C W false (.trg a')) := by
  refine PE.imp (pe_tupRgF hc hgl hml (prg_1 hgr hmr ha na) nb) fun σ H Q ⟨Z, F, env, r, h⟩ => ?_
  refine one_v (k := kP X.K false Q Z F σ) r (fun r => match r with | .ok x e1 => ofO ((int? x).bind fun n => if smallR n then some (.tuple (rngL 0 n.toNat)) else none) e1 | r => r) (fun x e1 => ofO ((int? x).bind fun n => if smallR n then some (.tuple (rngL 0 n.toNat)) else none) e1)
    (fun _ _ => rfl) (fun _ _ => rfl) rfl (by simp only [ev] at h; exact h) fun x e1 F1 H1 v h s1 r1 q1 => ?_
  obtain ⟨d, e3, h⟩ := okr_of h
  obtain ⟨n, e4, e5⟩ := bind_none e3
  cases int?_eq e4
  cases q1
  split at e5
  · rename_i hz
    cases e5
    have ok := rgTwo (m := 0) (n := n) (by decide) hz
    have rr := reps_rg (K := X.K) (F := F1) 0 n
    rw [Int.sub_zero] at rr
    exact ⟨n, rfl, ok, fun q o hq hd hcl => (out_of r1 s1 h).2.2.1 q o _ _ rfl hq (rg_len ok) hd hcl rr⟩
  · cases e5

/-! ## calls -/
/-- a call's end, told from the caller's side -/
structure CallE (K : PySem.W.Frag) (F H : Hp) (ex : Option Addr) (s' : D) (F' H' : Hp) : Prop where
  ff : Same F F'
  fh : Same F' H'
  hk : ∀ b o, H b = some o → ex ≠ some b → H' b = some o
  fn : ∀ b o, H b = some o → F' b = F b
  xo : ∀ a, ex = some a → Own K F' H' s' a
def CallV (K : PySem.W.Frag) (H : Hp) (fresh : Bool) (F' H' : Hp) (d : D) (v : V) : Prop :=
  if fresh = true then ∃ p, v = .ref p ∧ Own K F' H' d p ∧ F' p = none ∧ H p = none else Rep K F' d v
/-- what a def promises: what its small text gives -/
def spC (K : PySem.W.Frag) (cv : String → Value) (inout fresh : Bool) (n : Nat) (m : List D → D → CR) : Sp := fun vs H Q E =>
  ∃ F ds s ex xs, Same F H ∧ Reps K F ds xs ∧ ds.length = n ∧
    (if inout = true then ∃ a, ex = some a ∧ vs = .ref a :: xs ∧ Own K F H s a ∧ F a = none else ex = none ∧ vs = xs ∧ s = .none) ∧
    match m ds s with
    | .ok d s' => ∀ F' H' v, CallE K F H ex s' F' H' → CallV K H fresh F' H' d v → Q v H'
    | .exc c s' => ∀ F' H', CallE K F H ex s' F' H' → E (cv c) none H'
    | .stuck => False
theorem spC_len {K : PySem.W.Frag} {cv : String → Value} {inout fresh : Bool} {n : Nat} {m : List D → D → CR} {ps : List Str} (hp : ps.length = n + (if inout then 1 else 0)) (vs : List V) (H : Hp) (Q : VK) (E : XK) (h : spC K cv inout fresh n m vs H Q E) : vs.length = ps.length := by
  obtain ⟨F, ds, s, ex, xs, _, r, l, h, _⟩ := h
  have := r.length
  cases inout with
  | true =>
    rw [if_pos rfl] at h
    obtain ⟨a, _, rfl, _⟩ := h
    rw [hp, List.length_cons, this, l] <;> rfl
  | false =>
    rw [if_neg Bool.false_ne_true] at h
    obtain ⟨_, rfl, _⟩ := h
    rw [hp, this, l] <;> rfl
/-- the wish of an exception in a callee -/
def xk (cv : String → Value) (W : WX) : XK := fun cls d H => d = none ∧ ∃ c, cls = cv c ∧ W c H
theorem CallE.after {K : PySem.W.Frag} {Z : Ent} {F H F' H' : Hp} {env : Env} {σ : L2.St} {s' : D} (c : CallE K F H none s' F' H') (r : R K Z F env σ H) : R K Z F' env σ H' :=
  r.after c.ff c.fh (fun b o e => c.hk b o e (by simp)) c.fn
/-- the value of a call, its list new -/
theorem callV_val {K : PySem.W.Frag} {Z : Ent} {F H F' H' : Hp} {env env' : Env} {σ : L2.St} {d : D} {v : V} {fr fresh : Bool} {P : V → Prop} (r : R K Z F env σ H) (r' : R K Z F' env' σ H') (hv : CallV K H fresh F' H' d v)
    (ho : ∀ (i : Nat) (x : BT.Slot) (d : D), env'[i]? = some x → ownD x = some d → ∃ x' d', env[i]? = some x' ∧ ownD x' = some d') (hf : fr = true → fresh = true)
    (k : ∀ F2 v, Same F' F2 → R K Z F2 env' σ H' → Val K Z F2 env' σ H' fr d v → P v) : P v := by
  unfold CallV at hv
  cases fresh with
  | true =>
    rw [if_pos rfl] at hv
    obtain ⟨p, rfl, ow, fp, hp⟩ := hv
    have fs : Fresh K Z F' env' σ H' d p := ⟨ow, fp, r.z0 hp, r.xn hp, fun i x d e e' e2 => by
      obtain ⟨x', d', e3, e4⟩ := ho i x d e e'
      obtain ⟨a, e5, q, _⟩ := r.ow i x' d' e3 e4
      rw [e2] at e5
      cases e5
      obtain ⟨o, eo⟩ := q.some
      rw [hp] at eo; cases eo⟩
    cases fr with
    | true =>
      refine k F' _ (Same.refl _) r' ?_
      unfold Val
      cases d with
      | list ds => rw [if_pos (show (true && isL (PyData.list ds)) = true from rfl)]; exact ⟨p, rfl, fs⟩
      | dict ds => rw [if_pos (show (true && isL (PyData.dict ds)) = true from rfl)]; exact ⟨p, rfl, fs⟩
      | _ => exact ow.elim
    | false =>
      obtain ⟨r2, s2, q⟩ := r'.freeze fs
      exact k _ _ s2 r2 (by rw [Val.ff]; exact q)
  | false =>
    rw [if_neg Bool.false_ne_true] at hv
    refine k F' _ (Same.refl _) r' ?_
    cases fr with
    | true => exact absurd (hf rfl) Bool.false_ne_true
    | false => rw [Val.ff]; exact hv
theorem spC_mono {K : PySem.W.Frag} {cv : String → Value} {inout fresh : Bool} {n : Nat} {m : List D → D → CR} {vs : List V} {H : Hp} {Q : VK} {E E' : XK} (h : spC K cv inout fresh n m vs H Q E) (i : ∀ c d H, E c d H → E' c d H) : spC K cv inout fresh n m vs H Q E' := by
  obtain ⟨F, ds, s, ex, xs, a, b, c, d, hm⟩ := h
  refine ⟨F, ds, s, ex, xs, a, b, c, d, ?_⟩
  cases h1 : m ds s with
  | ok d s' => rw [h1] at hm; exact hm
  | exc c s' => rw [h1] at hm; exact fun F' H' ce => i _ _ _ (hm F' H' ce)
  | stuck => rw [h1] at hm; exact hm
/-- a def that may be called -/
structure FnAt (X : Cx) (CX : CXT) (cv : String → Value) (W : WX) (C : Calls) (x : Str) (f : String) (inout fresh : Bool) (n : Nat) : Prop where
  ex : ∃ k fa fd ps sp, FnOk X.prog X.w X.K X.mg X.base CX k fa fd ps sp ∧ (∀ (W' : WX), (∀ c H, W' c H → W c H) → ∀ vs H Q, spC X.K cv inout fresh n (C f) vs H Q (xk cv W') → sp vs H Q (xk cv W')) ∧ Room k X.A ∧ X.mg x = some (.ref fa) ∧ PySem.W.keepIn X.K (.ref fa) = true ∧ Binds X.K fd ps []
theorem call_read {cv : String → Value} {fresh fr : Bool} {n : Nat} {f : String} (ie : IE) (hi : ∀ env, ev C ie env = match evs C as' env with
    | .ok ds e1 => match C f ds .none with
      | .ok d _ => .ok d e1
      | .exc c _ => .exc c e1
      | .stuck => .stuck
    | .exc c e1 => .exc c e1
    | .stuck => .stuck) (hf : fr = true → fresh = true) (hl : lenEs as' = n) (σ : L2.St) (H : Hp) (Q : VK) (h : EV X C W fr ie σ H Q) : tCall (spC X.K cv false fresh n (C f)) [] (xk cv W) (EA X C W as') σ H Q := by
  obtain ⟨Z, F, env, r, h⟩ := h
  rw [hi] at h
  refine ⟨Z, F, env, r, ?_⟩
  cases h1 : evs C as' env with
  | ok ds e1 =>
    rw [h1] at h
    simp only at h
    intro F1 H1 vs s1 r1 q1
    rw [List.append_nil]
    refine ⟨F1, ds, .none, none, vs, r1.fh, q1, (evs_len h1).trans hl, ?_, ?_⟩
    · rw [if_neg Bool.false_ne_true]; exact ⟨rfl, rfl, rfl⟩
    · cases h2 : C f ds .none with
      | ok d s' =>
        rw [h2] at h
        intro F' H' v ce cv'
        have r2 := ce.after r1
        exact callV_val (fr := fr) r1 r2 cv' (fun i x d e e' => ⟨x, d, e, e'⟩) hf fun F2 v s2 r3 q => h F2 H' v (s1.trans (ce.ff.trans s2)) r3 q
      | exc c s' =>
        rw [h2] at h
        intro F' H' ce
        exact ⟨rfl, c, rfl, h F' H' (s1.trans ce.ff) (ce.after r1)⟩
      | stuck => rw [h2] at h; exact h.elim
  | exc c e1 => rw [h1] at h; exact h
  | stuck => rw [h1] at h; exact h.elim
theorem TA_imp {as' : IEs} {σ : L2.St} {H : Hp} {Q Q' : List V → Hp → Prop} (i : ∀ vs H, Q vs H → Q' vs H) (h : EA X C W as' σ H Q) : EA X C W as' σ H Q' := by
  obtain ⟨Z, F, env, r, h⟩ := h
  refine ⟨Z, F, env, r, ?_⟩
  cases h1 : evs C as' env with
  | ok ds e1 => rw [h1] at h; exact fun F' H' vs s' r' q => i _ _ (h F' H' vs s' r' q)
  | exc c e1 => rw [h1] at h; exact h
  | stuck => rw [h1] at h; exact h.elim
theorem pe_cl {CX : CXT} {cv : String → Value} {x : Str} {f : String} {fresh fr : Bool} {n : Nat} (F : FnAt X CX cv W C x f false fresh n) (ie : IE) (hi : ∀ env, ev C ie env = match evs C as' env with
    | .ok ds e1 => match C f ds .none with
      | .ok d _ => .ok d e1
      | .exc c _ => .exc c e1
      | .stuck => .stuck
    | .exc c e1 => .exc c e1
    | .stuck => .stuck) (hf : fr = true → fresh = true) (hg : Gl X x) (hx : Passes CX X (xk cv W)) (hl : lenEs as' = n) (ha : PA X (e :: es) (EA X C W as')) (hdb : (x == ("__debug__" : Str)) = false)
    (h1 : starEach (e :: es) X.env = (false, eval e X.env) :: starEach es X.env) (h2 : (backTo pos (starEach es X.env)).any (·.1) = false) : PE X (.Call (.Name x p) (e :: es) [] pos) (EV X C W fr ie) := by
  obtain ⟨k, fa, fd, ps, sp, fo, hsp, hr, hm, hk, hb⟩ := F.ex
  exact PE.imp (pe_call fo hr hg hm hk hb (dvs := []) .nil hx ha hdb h1 h2) fun σ H Q h => TA_imp (fun vs H1 q => hsp W (fun _ _ z => z) _ _ _ q) (call_read ie hi hf hl σ H Q h)
theorem flat_rep {K : PySem.W.Frag} {F F' : Hp} {d : D} {v : V} (h : isFlat d = true) (r : Rep K F d v) : Rep K F' d v := by
  cases r with
  | non => exact .non
  | bl b => exact .bl b
  | int i => exact .int i
  | str x => exact .str x
  | lst _ _ => cases h
  | tup _ _ => cases h
  | dct _ _ _ => cases h
/-- f(x, ..): x's own object is lent -/
theorem pe_cb {CX : CXT} {cv : String → Value} {x : Str} {f : String} {n i : Nat} (F : FnAt X CX cv W C x f false false (n + 1)) (hg : Gl X x) (hx : Passes CX X (xk cv W)) (hl : lenEs as' = n) (he : PE X e (tVar i)) (ha : PA X es (EA X C W as')) (hdb : (x == ("__debug__" : Str)) = false)
    (h1 : starEach (e :: es) X.env = (false, eval e X.env) :: starEach es X.env) (h2 : (backTo pos (starEach es X.env)).any (·.1) = false) : PE X (.Call (.Name x p) (e :: es) [] pos) (EV X C W false (.callB f i as')) := by
  obtain ⟨k, fa, fd, ps, sp, fo, hsp, hr, hm, hk, hb⟩ := F.ex
  refine PE.imp (pe_call fo hr hg hm hk hb (dvs := []) .nil hx (pa_cons he ha h1) hdb h1 h2) fun σ H Q ⟨Z, F, env, r, h⟩ => ?_
  simp only [ev] at h
  cases hs : slot env i with
  | val d0 =>
    rw [hs] at h
    simp only at h
    obtain ⟨v0, ev0, q0⟩ := r.vl i d0 (slot_get hs nofun)
    refine ⟨v0, ev0, Z, F, env, r, ?_⟩
    cases h1 : evs C as' env with
    | ok ds e1 =>
      rw [h1] at h
      simp only at h
      intro F1 H1 vs s1 r1 q1
      refine hsp W (fun _ _ z => z) _ _ _ ?_
      rw [List.append_nil]
      refine ⟨F1, d0 :: ds, .none, none, v0 :: vs, r1.fh, .cons (q0.mono s1) q1, by rw [List.length_cons, (evs_len h1).trans hl], ?_, ?_⟩
      · rw [if_neg Bool.false_ne_true]; exact ⟨rfl, rfl, rfl⟩
      · cases h2 : C f (d0 :: ds) .none with
        | ok d s' =>
          rw [h2] at h
          intro F' H' v ce cv'
          have r2 := ce.after r1
          exact callV_val (fr := false) r1 r2 cv' (fun i x d e e' => ⟨x, d, e, e'⟩) (fun h => by cases h) fun F2 v s2 r3 q => h F2 H' v (s1.trans (ce.ff.trans s2)) r3 q
        | exc c s' =>
          rw [h2] at h
          intro F' H' ce
          exact ⟨rfl, c, rfl, h F' H' (s1.trans ce.ff) (ce.after r1)⟩
        | stuck => rw [h2] at h; exact h.elim
    | exc c e1 => rw [h1] at h; exact h
    | stuck => rw [h1] at h; exact h.elim
  | own d0 =>
    rw [hs] at h
    simp only at h
    obtain ⟨a, ea, _⟩ := r.ow i _ d0 (slot_get hs nofun) rfl
    refine ⟨.ref a, ea, Z, F, env, r, ?_⟩
    cases h1 : evs C as' env with
    | ok ds e1 =>
      rw [h1] at h
      simp only at h
      intro F1 H1 vs s1 r1 q1
      refine hsp W (fun _ _ z => z) _ _ _ ?_
      rw [List.append_nil]
      cases hs1 : slot e1 i with
      | own d1 =>
        rw [hs1] at h
        simp only at h
        obtain ⟨a', ea', qo, fn, zo⟩ := r1.ow i _ d1 (slot_get hs1 nofun) rfl
        rw [ea] at ea'
        cases ea'
        have fz := frzAt_same (H := H1) fn
        have f2 : Same (frzAt F1 H1 a) H1 := fun b o e => by
          unfold frzAt at e
          by_cases hb : b = a
          · rw [if_pos hb] at e; rw [hb]; exact e
          · rw [if_neg hb] at e; exact r1.fh b o e
        have aft : ∀ {s' : D} {F' H' : Hp}, CallE X.K (frzAt F1 H1 a) H1 none s' F' H' → R X.K Z F1 e1 σ H' := fun {s' F' H'} ce =>
          r1.after (Same.refl _) (fun b o e => ce.hk b o (r1.fh b o e) (by simp)) (fun b o e => ce.hk b o e (by simp)) fun _ _ _ => rfl
        refine ⟨frzAt F1 H1 a, d1 :: ds, .none, none, .ref a :: vs, f2, .cons (qo.rep fn) (q1.mono fz), by rw [List.length_cons, (evs_len h1).trans hl], ?_, ?_⟩
        · rw [if_neg Bool.false_ne_true]; exact ⟨rfl, rfl, rfl⟩
        · cases h2 : C f (d1 :: ds) .none with
          | ok d s' =>
            rw [h2] at h
            simp only at h
            intro F' H' v ce cv'
            unfold CallV at cv'
            rw [if_neg Bool.false_ne_true] at cv'
            split at h
            · rename_i hfl
              exact h F1 H' v s1 (aft ce) (by rw [Val.ff]; exact flat_rep hfl cv')
            · exact h.elim
          | exc c s' =>
            rw [h2] at h
            intro F' H' ce
            exact ⟨rfl, c, rfl, h F1 H' s1 (aft ce)⟩
          | stuck => rw [h2] at h; exact h.elim
      | _ => rw [hs1] at h; exact h.elim
    | exc c e1 => rw [h1] at h; exact h
    | stuck => rw [h1] at h; exact h.elim
  | _ => rw [hs] at h; exact h.elim
/-- f(x, ..), x's object changed -/
theorem pe_cs {CX : CXT} {cv : String → Value} {x : Str} {f : String} {fresh fr : Bool} {n i : Nat} (F : FnAt X CX cv W C x f true fresh n) (hf : fr = true → fresh = true) (hg : Gl X x) (hx : Passes CX X (xk cv W)) (hl : lenEs as' = n) (he : PE X e (tVar i)) (ha : PA X es (EA X C W as')) (hdb : (x == ("__debug__" : Str)) = false)
    (h1 : starEach (e :: es) X.env = (false, eval e X.env) :: starEach es X.env) (h2 : (backTo pos (starEach es X.env)).any (·.1) = false) : PE X (.Call (.Name x p) (e :: es) [] pos) (EV X C W fr (.callS f i as')) := by
  obtain ⟨k, fa, fd, ps, sp, fo, hsp, hr, hm, hk, hb⟩ := F.ex
  refine PE.imp (pe_call fo hr hg hm hk hb (dvs := []) .nil hx (pa_cons he ha h1) hdb h1 h2) fun σ H Q ⟨Z, F, env, r, h⟩ => ?_
  simp only [ev] at h
  split at h
  · rename_i hi
    obtain ⟨a, ea⟩ := own_ref r hi
    refine ⟨.ref a, ea, Z, F, env, r, ?_⟩
    cases h1 : evs C as' env with
    | ok ds e1 =>
      rw [h1] at h
      simp only at h
      intro F1 H1 vs s1 r1 q1
      refine hsp W (fun _ _ z => z) _ _ _ ?_
      rw [List.append_nil]
      cases hs : ownD (slot e1 i) with
      | none => rw [hs] at h; exact h.elim
      | some s =>
        rw [hs] at h
        obtain ⟨a', ea', qo, fn, zo⟩ := r1.ow i _ _ (slot_ownD hs) hs
        rw [ea] at ea'
        cases ea'
        refine ⟨F1, ds, s, some a, vs, r1.fh, q1, (evs_len h1).trans hl, ?_, ?_⟩
        · rw [if_pos rfl]; exact ⟨a, rfl, rfl, qo, fn⟩
        · have aft : ∀ {s' : D} {F' H' : Hp}, CallE X.K F1 H1 (some a) s' F' H' → R X.K Z F' (e1.set i (reOwn (slot e1 i) s')) σ H' := fun {s' F' H'} ce =>
            r1.mutG hs ea (ce.xo a rfl) ce.ff ce.fh (fun b o e ne => ce.hk b o e fun z => ne (Option.some.inj z).symm) ce.fn
          simp only at h
          cases h2 : C f ds s with
          | ok d s' =>
            rw [h2] at h
            intro F' H' v ce cv'
            refine callV_val (fr := fr) r1 (aft ce) cv' (fun j x d e e' => ?_) hf fun F2 v s2 r3 q => h F2 H' v (s1.trans (ce.ff.trans s2)) r3 q
            rcases set_at e with ⟨z, _⟩ | ⟨_, e⟩
            · rw [z]; exact ⟨_, _, slot_ownD hs, hs⟩
            · exact ⟨x, d, e, e'⟩
          | exc c s' =>
            rw [h2] at h
            intro F' H' ce
            exact ⟨rfl, c, rfl, h F' H' (s1.trans ce.ff) (aft ce)⟩
          | stuck => rw [h2] at h; exact h.elim
    | exc c e1 => rw [h1] at h; exact h
    | stuck => rw [h1] at h; exact h.elim
  · exact h.elim
end
end BT
namespace BT
open PySem PySem.Spec PyProof.Rows L2
/-! ## what a loop walks: a list or a tuple (k), its items, its pairs -/
def SqB (k : Bool) (K : PySem.W.Frag) (H : Hp) (a : Addr) (xs : List V) : Prop := if k = true then SqT K H a xs else SqL K H a xs
def ItB (k : Bool) (h : Heap) (it a : Addr) (i : Nat) : Prop := if k = true then h.IsTupleIter it a i else h.IsListIter it a i
def SrcB (k : Bool) (h : Heap) (a : Addr) (us : List Value) : Prop := if k = true then h.IsTuple a us.toArray else h.IsList a us.toArray
section
variable {X : Cx} {pins : List (Addr × Obj)} {σ : L2.St} {H : Hp} {s : Shared} {k : Bool} {a : Addr} {xs : List V}
theorem SqB.read (I : Inv X pins σ H s) (h : SqB k X.K H a xs) : ∃ us, Vals xs us ∧ SrcB k s.heap a us := by
  cases k with
  | true =>
    obtain ⟨us, r, p, _⟩ := I.tuple (show SqT X.K H a xs from h)
    exact ⟨us, r, p⟩
  | false =>
    obtain ⟨us, r, p, _⟩ := I.list (show SqL X.K H a xs from h)
    exact ⟨us, r, p.isList⟩
theorem SqB.inj (I : Inv X pins σ H s) {ys : List V} (h : SqB k X.K H a xs) (h2 : SqB k X.K H a ys) : xs = ys := by
  cases k with
  | true => exact I.tuple_inj h h2
  | false => exact I.list_inj h h2
theorem ItB.obj {h : Heap} {it : Addr} {i : Nat} (x : ItB k h it a i) : ∃ o, h.get? it = some o ∧ ∀ v, o.data ≠ .cell v := by
  cases k with
  | true => obtain ⟨o, e, _, d⟩ := x; exact ⟨o, e, fun v z => by rw [d] at z; cases z⟩
  | false => obtain ⟨o, e, _, d⟩ := x; exact ⟨o, e, fun v z => by rw [d] at z; cases z⟩
theorem ItB.lay {h h' : Heap} {it : Addr} {i : Nat} (x : ItB k h it a i) (e : ∀ o, h.get? it = some o → h'.get? it = some o) : ItB k h' it a i := by
  cases k with
  | true => exact Heap.IsTupleIter.at x e
  | false => exact Heap.IsListIter.at x e
theorem draw_any {A : Around} (hh : A.handled = none) (k : Bool) (it a : Addr) (us : List Value) (ne : a ≠ it) :
    Draws X.prog X.w A it [it, a] us.toArray.size (fun i v => us.toArray[i]? = some v) (fun i h => ItB k h it a i ∧ SrcB k h a us) := by
  cases k with
  | true => exact Draws.tuple hh it a ne us.toArray
  | false => exact Draws.list hh it a ne us.toArray
/-- the object that iter of it makes -/
def itObj (k : Bool) (a : Addr) : Obj := if k = true then { cls := .type "tuple_iterator", data := .fields #[.ref a, .int 0 0] } else { cls := .type "list_iterator", data := .fields #[.ref a, .int 0 0] }
theorem begins_any (k : Bool) (a : Addr) (us : List Value) : Begins (.ref a) (itObj k a) fun h => SrcB k h a us := by
  cases k with
  | true => exact begins_tuple a us.toArray
  | false => exact begins_list a us.toArray
theorem itB_new {h : Heap} {it : Addr} (e : h.get? it = some (itObj k a)) : ItB k h it a 0 := by
  cases k with
  | true => exact ⟨_, e, rfl, rfl⟩
  | false => exact ⟨_, e, rfl, rfl⟩
theorem SrcB.lt {h : Heap} {us : List Value} (x : SrcB k h a us) : a < h.objs.size := by
  cases k with
  | true => obtain ⟨o, e, _⟩ := x; exact Heap.lt_size e
  | false => obtain ⟨o, e, _⟩ := x; exact Heap.lt_size e
theorem SrcB.lay {h h' : Heap} {us : List Value} (x : SrcB k h a us) (e : ∀ o, h.get? a = some o → h'.get? a = some o) : SrcB k h' a us := by
  cases k with
  | true => obtain ⟨o, e1, r⟩ := x; exact ⟨o, e o e1, r⟩
  | false => obtain ⟨o, e1, r⟩ := x; exact ⟨o, e o e1, r⟩
end

/-! ### enumerate -/
def ItEn (K : PySem.W.Frag) (k : Bool) (a : Addr) : L2.It where
  go i H := ∃ (xs : List V) (x : V), SqB k K H a xs ∧ xs[i]? = some x
  yld i H v H' := ∃ T x, v = .ref T ∧ H T = none ∧ H' = upd H T (.tup [.int (i : Nat), x]) ∧ ∀ xs, SqB k K H a xs → xs[i]? = some x
  stop i H := ∃ xs : List V, SqB k K H a xs ∧ xs.length = i
theorem turn_en {P : Program} {w : World} {K : PySem.W.Frag} {elts : List Expr} {kk : Nat} {tpos : Pos} (k : Bool) (a e it : Addr) (nea : a ≠ it) (nee : a ≠ e) (ne : e ≠ it) :
    Turn P w K (.Tuple elts kk tpos) (ItEn K k a) [e, it] e (fun i h => (∃ old, IsEnum h e it ((i : Nat) : Int) old) ∧ ItB k h it a i) where
  mem := List.mem_cons_self ..
  obj i h st b hb := by
    obtain ⟨⟨old, he⟩, hi⟩ := st
    rcases List.mem_cons.mp hb with z | z
    · subst z; exact ⟨_, he, fun v q => nomatch q⟩
    · rw [List.mem_singleton.mp z]; exact hi.obj
  keep i h h' st kp := ⟨st.1.imp fun old he => kp e (List.mem_cons_self ..) _ he, st.2.lay fun o q => kp it (List.mem_cons_of_mem _ (List.mem_cons_self ..)) o q⟩
  item := by
    intro X hP hw hK hc i pins s σ H E I hf st hg
    subst hP hw hK
    obtain ⟨⟨old, he⟩, hit⟩ := st
    obtain ⟨xs, x, hq, hx⟩ := hg
    obtain ⟨us, rv, src⟩ := hq.read I
    obtain ⟨u, hu, ru⟩ := rv.get hx
    have lt : i < us.toArray.size := by
      rw [List.size_toArray]
      exact (List.getElem?_eq_some_iff.mp hu).1
    have hA : X.A.in1.handled = none := I.ok.hd hc
    have el : e < s.heap.objs.size := Heap.lt_size he
    have il : it < s.heap.objs.size := by obtain ⟨o, q, _⟩ := hit.obj; exact Heap.lt_size q
    refine wpAny_pyNext_enum_itemD (draw_any hA k it a us nea) he ⟨hit, src⟩ lt ne (fun m => ?_) fun y h' tk hy ho st' hT hz hk => ?_
    · rcases List.mem_cons.mp m with z | z
      · exact ne z
      · exact nee (List.mem_singleton.mp z).symm
    have hyu : y = u := by
      have q : us.toArray[i]? = some u := by rw [← Array.getElem?_toList]; exact hu
      rw [q] at hy
      exact (Option.some.inj hy).symm
    rw [hyu] at ho hT
    refine ⟨_, rfl, wpAny_letOwnedTupleGo_enum (s := { s with heap := h', toks := tk + 1 }) ho fun h2 he2 sb => ?_⟩
    have hT2 : h2.get? s.heap.objs.size = some { cls := .type "tuple", data := .seq #[.int i tk, u] } := (sb.2 _ (Nat.ne_of_gt el)).trans hT
    have nw : ObjOk X.prog X.w (upd H s.heap.objs.size (.tup [.int (i : Nat), x])) h2 s.heap.objs.size (.tup [.int (i : Nat), x]) :=
      ⟨by show 2 ≤ sizeLine; decide, [.int i tk, u], .cons ⟨_, rfl⟩ (.cons ru .nil), ⟨_, hT2, rfl, _, rfl⟩⟩
    have I1 : Inv X pins σ (upd H s.heap.objs.size (.tup [.int (i : Nat), x])) { s with heap := h2, toks := tk + 1 } :=
      I.turnedNew (ch := [e, it]) (fun b ob hb q => (sb.2 b fun z => hb (by rw [z]; exact List.mem_cons_self ..)).trans (hk b ob (fun z => hb (by rw [z]; exact List.mem_cons_self ..)) (fun z => hb (by rw [z]; exact List.mem_cons_of_mem _ (List.mem_cons_self ..))) q)) hf (Nat.le_refl _) nw
    refine ⟨.ref s.heap.objs.size, _, I1, rfl, ⟨_, x, rfl, I.hok.fresh (Nat.le_refl _), rfl, fun ys hy => by rw [SqB.inj I hy hq]; exact hx⟩, ⟨⟨u, ?_⟩, st'.1.lay fun o q => (sb.2 it (Ne.symm ne)).trans q⟩, fun b hb => ?_⟩
    · rw [show ((i + 1 : Nat) : Int) = (i : Int) + 1 by omega]; exact he2
    · have lb : b < s.heap.objs.size := by
        rcases List.mem_cons.mp hb with z | z
        · rw [z]; exact el
        · rw [List.mem_singleton.mp z]; exact il
      rw [upd_ne (Nat.ne_of_lt lb)]
      exact (hf b hb).1
  done := by
    intro X hP hw hK hc i pins s σ H E I hf st hg
    subst hP hw hK
    obtain ⟨⟨old, he⟩, hit⟩ := st
    obtain ⟨xs, hq, hx⟩ := hg
    obtain ⟨us, rv, src⟩ := hq.read I
    have hA : X.A.in1.handled = none := I.ok.hd hc
    have hz : us.toArray.size = i := by rw [List.size_toArray, ← rv.length]; exact hx
    obtain ⟨f0, f1, f2, f3, f4, f5⟩ := hf it (List.mem_cons_of_mem _ (List.mem_cons_self ..))
    exact wpAny_pyNext_enum_endD (draw_any hA k it a us nea) he (by rw [hz]; exact ⟨hit, src⟩) fun h' eb => ⟨rfl, I.turned (t' := s.toks) (fun b o hb q => eb b o hb q) f0 f1 f3 f4 f5⟩
  self := fun A i s Q E st h => let ⟨⟨_, he⟩, _⟩ := st; wpAny_pyIter_enum he h
theorem meets_en1 {v : Value} {o : Obj} {Hh : Heap → Prop} (B : Begins v o Hh) :
    Meets (Builtin.«enumerate.__new__» ⟨[.type "enumerate", v], []⟩) (fun _ R s => Hh s.heap ∧
      R (.ok (.ret (.ref (s.heap.push o).objs.size))) { s with heap := (s.heap.push o).push { cls := .type "enumerate", data := .fields #[.none, .bool false, .ref s.heap.objs.size, rawInt 0, .none, .none] } }) :=
  .of_wp fun prog w A R s h => by
    obtain ⟨hp, g, d, tk, os⟩ := s
    obtain ⟨h1, h⟩ := h
    have sub := sub_enumerate
    have bg : ∀ {A' : Around} {E : Value → Shared → Prop} {Q : Value → Shared → Prop}, Q (.ref hp.objs.size) ⟨hp.push o, g, d, tk, os⟩ → wpAny (model prog w) A' (pyIter v) Q E ⟨hp, g, d, tk, os⟩ :=
      fun q => B.iter prog w _ _ ⟨hp, g, d, tk, os⟩ _ h1 q
    wp_walk using bg
    refine wpAny_stack_any fun st => wpAny_pure ?_
    split
    · rename_i c _ _ _ _ _
      cases (c == Value.type "enumerate") <;> (wp_walk using bg; exact ⟨_, rfl, h⟩)
    · wp_walk using bg; exact ⟨_, rfl, h⟩
theorem call_en1 {prog : Program} {w : World} {A : Around} {E : Value → Shared → Prop} {s : Shared} {v : Value} {o : Obj} {Hh : Heap → Prop} {Q : Value → Shared → Prop} (B : Begins v o Hh) (h1 : Hh s.heap)
    (h : ∀ h', IsEnum h' (s.heap.objs.size + 1) s.heap.objs.size 0 .none → h'.get? s.heap.objs.size = some o → h'.objs.size = s.heap.objs.size + 2 → (∀ b o, s.heap.get? b = some o → h'.get? b = some o) → Q (.ref (s.heap.objs.size + 1)) { s with heap := h' }) :
    wpAny (model prog w) A (call (.type "enumerate") [v]) Q E s := by
  refine callType_new F.called_enumerate (by decide) (F.typeCall_enumerate_1 _) (F.newCall_enumerate_1 _) (fun obj => F.args_object_init_2 obj _) F.entry_enumerate_new (meets_en1 B) ⟨h1, ?_⟩
  have hz : (s.heap.push o).objs.size = s.heap.objs.size + 1 := Heap.size_push ..
  rw [hz]
  have he : IsEnum ((s.heap.push o).push { cls := .type "enumerate", data := .fields #[.none, .bool false, .ref s.heap.objs.size, rawInt 0, .none, .none] }) (s.heap.objs.size + 1) s.heap.objs.size 0 .none := by
    have q := Heap.get?_push_size (s.heap.push o) (o := { cls := .type "enumerate", data := .fields #[.none, .bool false, .ref s.heap.objs.size, rawInt 0, .none, .none] }) rfl
    rwa [hz] at q
  exact ⟨⟨_, he, rfl⟩, h _ he (Heap.get?_push_of_some _ (Heap.get?_push_size _ B.free)) (by rw [Heap.size_push, hz]) fun b o x => Heap.get?_push_of_some _ (Heap.get?_push_of_some _ x)⟩
def iEn (K : PySem.W.Frag) (ta : TA) : TI := fun σ H R => ta σ H fun vs H1 => ∃ k a xs, vs = [.ref a] ∧ SqB k K H1 a xs ∧ R (ItEn K k a) H1
theorem pi_en {X : Cx} {e : Expr} {ta : TA} {p pos tpos : Pos} {elts : List Expr} {kk : Nat} (hg : Gl X "enumerate") (hm : X.mg "enumerate" = none) (ha : PA X [e] ta) (hs : starEach [e] X.env = [(false, eval e X.env)]) :
    PI X (.Tuple elts kk tpos) (.Call (.Name "enumerate" p) [e] [] pos) (iEn X.K ta) := by
  refine ⟨fun pins s σ H R I h => Call_ (ld_blt I hg hm boot_enumerate (PyProof.Rows.callWith_type1 (thn (ha.run pos pins s σ H _ I h) fun us s1 ⟨vs, H1, I1, r1, q1⟩ => ?_) hs rfl))⟩
  obtain ⟨k, a, xs, ex, hq, q⟩ := q1
  subst ex
  obtain ⟨u, rfl, ru⟩ := vals1 r1
  cases ru
  obtain ⟨us, rv, src⟩ := hq.read I1
  have la := src.lt
  refine call_en1 (begins_any k a us) src fun h' he hit hz hk => wpAny_pyIter_enum he ?_
  have I2 : Inv X pins σ H1 { s1 with heap := h' } := I1.kept (t' := s1.toks) hk
  refine ⟨s1.heap.objs.size + 1, [s1.heap.objs.size + 1, s1.heap.objs.size], _, _, H1, rfl, I2, turn_en k a (s1.heap.objs.size + 1) s1.heap.objs.size (Nat.ne_of_lt la) (Nat.ne_of_lt (Nat.lt_succ_of_lt la)) (Nat.succ_ne_self _), ⟨⟨.none, he⟩, itB_new hit⟩, fun b hb => ?_, q⟩
  have le : s1.heap.objs.size ≤ b := by
    rcases List.mem_cons.mp hb with z | z
    · rw [z]; exact Nat.le_succ _
    · rw [List.mem_singleton.mp z]; exact Nat.le_refl _
  exact I1.fpOk le (I1.hok.fresh le)

/-! ### zip -/
def ItZp (K : PySem.W.Frag) (k l : Bool) (a b : Addr) : L2.It where
  go i H := ∃ (xs ys : List V) (x y : V), SqB k K H a xs ∧ SqB l K H b ys ∧ xs[i]? = some x ∧ ys[i]? = some y
  yld i H v H' := ∃ T x y, v = .ref T ∧ H T = none ∧ H' = upd H T (.tup [x, y]) ∧ (∀ xs, SqB k K H a xs → xs[i]? = some x) ∧ ∀ ys, SqB l K H b ys → ys[i]? = some y
  stop i H := ∃ xs ys : List V, SqB k K H a xs ∧ SqB l K H b ys ∧ i ≤ xs.length ∧ i ≤ ys.length ∧ (i = xs.length ∨ i = ys.length)
theorem mem5 {c z TI TO i1 i2 : Addr} (h : c ∈ [z, TI, TO, i1, i2]) : c = z ∨ c = TI ∨ c = TO ∨ c = i1 ∨ c = i2 := by
  rcases List.mem_cons.mp h with q | h
  · exact .inl q
  rcases List.mem_cons.mp h with q | h
  · exact .inr (.inl q)
  rcases List.mem_cons.mp h with q | h
  · exact .inr (.inr (.inl q))
  rcases List.mem_cons.mp h with q | h
  · exact .inr (.inr (.inr (.inl q)))
  · exact .inr (.inr (.inr (.inr (List.mem_singleton.mp h))))
theorem turn_zp {P : Program} {w : World} {K : PySem.W.Frag} {elts : List Expr} {kk : Nat} {tpos : Pos} {k l : Bool} {a b z TI TO i1 i2 : Addr} (D : ZipSep2 z TI TO i1 i2 [i1, a] [i2, b]) (nea : a ≠ i1) (neb : b ≠ i2) :
    Turn P w K (.Tuple elts kk tpos) (ItZp K k l a b) [z, TI, TO, i1, i2] z (fun i h => IsZip h z TI TO .none ∧ IsTupOf2 h TI (.ref i1) (.ref i2) ∧ (∃ x y, IsTupOf2 h TO x y) ∧ ItB k h i1 a i ∧ ItB l h i2 b i) where
  mem := List.mem_cons_self ..
  obj i h st c hc := by
    obtain ⟨hz, hTI, ⟨x, y, hTO⟩, h1, h2⟩ := st
    rcases mem5 hc with q | q | q | q | q
    · rw [q]; exact ⟨_, hz, fun v q => nomatch q⟩
    · rw [q]; exact ⟨_, hTI, fun v q => nomatch q⟩
    · rw [q]; exact ⟨_, hTO, fun v q => nomatch q⟩
    · rw [q]; exact h1.obj
    · rw [q]; exact h2.obj
  keep i h h' st kp := by
    obtain ⟨hz, hTI, ⟨x, y, hTO⟩, h1, h2⟩ := st
    exact ⟨kp z (by simp) _ hz, kp TI (by simp) _ hTI, ⟨x, y, kp TO (by simp) _ hTO⟩, h1.lay fun o q => kp i1 (by simp) o q, h2.lay fun o q => kp i2 (by simp) o q⟩
  item := by
    intro X hP hw hK hc i pins s σ H E I hf st hg
    subst hP hw hK
    obtain ⟨hz, hTI, ⟨x0, y0, hTO⟩, h1, h2⟩ := st
    obtain ⟨xs, ys, x, y, qx, qy, hx, hy⟩ := hg
    obtain ⟨us, rv, src⟩ := qx.read I
    obtain ⟨ws, rw2, src2⟩ := qy.read I
    obtain ⟨u, hu, ru⟩ := rv.get hx
    obtain ⟨u2, hu2, ru2⟩ := rw2.get hy
    have hA : X.A.in1.handled = none := I.ok.hd hc
    have l1 : i < us.toArray.size := by rw [List.size_toArray]; exact (List.getElem?_eq_some_iff.mp hu).1
    have l2 : i < ws.toArray.size := by rw [List.size_toArray]; exact (List.getElem?_eq_some_iff.mp hu2).1
    have zl : z < s.heap.objs.size := Heap.lt_size hz
    refine wpAny_pyNext_zipD2_item D (draw_any hA k i1 a us nea) (draw_any hA l i2 b ws neb) hz hTI hTO ⟨h1, src⟩ ⟨h2, src2⟩ l1 l2 fun y1 y2 h' tk e1 e2 z' TO' s1' s2' hT hsz hk => ?_
    have q1 : y1 = u := by
      have q : us.toArray[i]? = some u := by rw [← Array.getElem?_toList]; exact hu
      rw [q] at e1; exact (Option.some.inj e1).symm
    have q2 : y2 = u2 := by
      have q : ws.toArray[i]? = some u2 := by rw [← Array.getElem?_toList]; exact hu2
      rw [q] at e2; exact (Option.some.inj e2).symm
    rw [q1, q2] at TO' hT
    refine ⟨_, rfl, wpAny_letOwnedTupleGo_zip (s := { s with heap := h', toks := tk }) z' fun h2' z2 sb => ?_⟩
    have hT2 : h2'.get? s.heap.objs.size = some { cls := .type "tuple", data := .seq #[u, u2] } := (sb.2 _ (Nat.ne_of_gt zl)).trans hT
    have nw : ObjOk X.prog X.w (upd H s.heap.objs.size (.tup [x, y])) h2' s.heap.objs.size (.tup [x, y]) :=
      ⟨by show 2 ≤ sizeLine; decide, [u, u2], .cons ru (.cons ru2 .nil), ⟨_, hT2, rfl, _, rfl⟩⟩
    have I1 : Inv X pins σ (upd H s.heap.objs.size (.tup [x, y])) { s with heap := h2', toks := tk } :=
      I.turnedNew (ch := [z, TI, TO, i1, i2]) (fun c o hb q => (sb.2 c fun q' => hb (by simp [q'])).trans (hk c o (fun q' => hb (by simp [q'])) (fun q' => hb (by simp [q'])) (fun q' => hb (by simp [q'])) (fun q' => hb (by simp [q'])) q)) hf (Nat.le_refl _) nw
    refine ⟨.ref s.heap.objs.size, _, I1, rfl, ⟨_, x, y, rfl, I.hok.fresh (Nat.le_refl _), rfl, fun m hm => by rw [SqB.inj I hm qx]; exact hx, fun m hm => by rw [SqB.inj I hm qy]; exact hy⟩, ⟨z2, ?_, ⟨u, u2, ?_⟩, ?_, ?_⟩, fun c hcm => ?_⟩
    · exact (sb.2 _ D.TIz).trans (hk _ _ D.TIz D.TITO D.TIi1 D.TIi2 hTI)
    · exact (sb.2 _ D.TOz).trans TO'
    · exact s1'.1.lay fun o q => (sb.2 _ (Ne.symm D.zi1)).trans q
    · exact s2'.1.lay fun o q => (sb.2 _ (Ne.symm D.zi2)).trans q
    · have lt : c < s.heap.objs.size := by
        rcases mem5 hcm with q | q | q | q | q
        · rw [q]; exact zl
        · rw [q]; exact Heap.lt_size hTI
        · rw [q]; exact Heap.lt_size hTO
        · rw [q]; obtain ⟨_, e1, _⟩ := h1.obj; exact Heap.lt_size e1
        · rw [q]; obtain ⟨_, e2, _⟩ := h2.obj; exact Heap.lt_size e2
      rw [upd_ne (Nat.ne_of_lt lt)]
      exact (hf c hcm).1
  done := by
    intro X hP hw hK hc i pins s σ H E I hf st hg
    subst hP hw hK
    obtain ⟨hz, hTI, ⟨x0, y0, hTO⟩, h1, h2⟩ := st
    obtain ⟨xs, ys, qx, qy, b1, b2, hend⟩ := hg
    obtain ⟨us, rv, src⟩ := qx.read I
    obtain ⟨ws, rw2, src2⟩ := qy.read I
    have hA : X.A.in1.handled = none := I.ok.hd hc
    have e1 : us.toArray.size = xs.length := by rw [List.size_toArray, ← rv.length]
    have e2 : ws.toArray.size = ys.length := by rw [List.size_toArray, ← rw2.length]
    refine wpAny_pyNext_zipD2_end D (draw_any hA k i1 a us nea) (draw_any hA l i2 b ws neb) hz hTI hTO ⟨h1, src⟩ ⟨h2, src2⟩ (by rw [e1]; exact b1) (by rw [e2]; exact b2) (by rw [e1, e2]; exact hend)
      fun h' tk hk => ⟨rfl, I.turnedL (t' := tk) (ch := [z, TI, TO, i1, i2]) (fun c o hb q => hk c o (fun q' => hb (by simp [q'])) (fun q' => hb (by simp [q'])) (fun q' => hb (by simp [q'])) (fun q' => hb (by simp [q'])) q) hf⟩
  self := fun A i s Q E st h => wpAny_pyIter_zip st.1 h
def iZp (K : PySem.W.Frag) (ta : TA) : TI := fun σ H R => ta σ H fun vs H1 => ∃ k l a b xs ys, vs = [.ref a, .ref b] ∧ SqB k K H1 a xs ∧ SqB l K H1 b ys ∧ R (ItZp K k l a b) H1
theorem pi_zp {X : Cx} {e e2 : Expr} {ta : TA} {p pos tpos : Pos} {elts : List Expr} {kk : Nat} (hg : Gl X "zip") (hm : X.mg "zip" = none) (ha : PA X [e, e2] ta)
    (hs : starEach [e, e2] X.env = (false, eval e X.env) :: starEach [e2] X.env) (hpl : (backTo pos (starEach [e2] X.env)).any (·.1) = false) :
    PI X (.Tuple elts kk tpos) (.Call (.Name "zip" p) [e, e2] [] pos) (iZp X.K ta) := by
  refine ⟨fun pins s σ H R I h => Call_ (ld_blt I hg hm PyProof.Rows.boot_zip (PyProof.Rows.callWith_type1 (thn (ha.run pos pins s σ H _ I h) fun us s1 ⟨vs, H1, I1, r1, q1⟩ => ?_) hs hpl))⟩
  obtain ⟨k, l, a, b, xs, ys, ex, qx, qy, q⟩ := q1
  subst ex
  obtain ⟨u, u2, rfl, ru, ru2⟩ := Vals.two r1
  cases ru
  cases ru2
  obtain ⟨us, rv, src⟩ := qx.read I1
  obtain ⟨ws, rw2, src2⟩ := qy.read I1
  have la := src.lt
  have lb := src2.lt
  refine zip_begins2 (begins_any k a us) (begins_any l b ws) src src2 fun h' hz hTI hTO g1 g2 hsz hk => wpAny_pyIter_zip hz ?_
  have I2 : Inv X pins σ H1 { s1 with heap := h' } := I1.kept (t' := s1.toks) hk
  have sep : ZipSep2 (s1.heap.objs.size + 4) (s1.heap.objs.size + 2) (s1.heap.objs.size + 3) s1.heap.objs.size (s1.heap.objs.size + 1) [s1.heap.objs.size, a] [s1.heap.objs.size + 1, b] :=
    zip_sep2 (fun c hc => by rw [List.mem_singleton.mp hc]; exact la) fun c hc => by rw [List.mem_singleton.mp hc]; exact lb
  refine ⟨s1.heap.objs.size + 4, [s1.heap.objs.size + 4, s1.heap.objs.size + 2, s1.heap.objs.size + 3, s1.heap.objs.size, s1.heap.objs.size + 1], _, _, H1, rfl, I2, turn_zp sep (Nat.ne_of_lt la) (Nat.ne_of_lt (Nat.lt_succ_of_lt lb)), ⟨hz, hTI, ⟨_, _, hTO⟩, itB_new g1, itB_new g2⟩, fun c hcm => ?_, q⟩
  have le : s1.heap.objs.size ≤ c := by
    rcases mem5 hcm with z | z | z | z | z <;> (rw [z]; first | exact Nat.le_refl _ | exact Nat.le_add_right _ _)
  exact I1.fpOk le (I1.hok.fresh le)
end BT
namespace BT
open PySem PySem.Spec PyProof.Rows L2
/-! ## walks of a dict -/
theorem Entr.get {ds : List D} {ks vs : List V} {es : List DictEntry} (h : Entr ds ks vs es) : ∀ {i : Nat} {v : V}, ks[i]? = some v → ∃ en u, es[i]? = some en ∧ vs[i]? = some u ∧ RelV v en.key ∧ RelV u en.val := by
  induction h with
  | nil => intro i v e; simp at e
  | @cons d k v e ds ks vs es h1 h2 h3 h ih =>
    intro i v' e'
    cases i with
    | zero =>
      simp only [List.getElem?_cons_zero, Option.some.injEq] at e'
      subst e'
      exact ⟨e, v, rfl, rfl, h2, h3⟩
    | succ j =>
      simp only [List.getElem?_cons_succ] at e' ⊢
      exact ih e'
theorem Entr.len {ds : List D} {ks vs : List V} {es : List DictEntry} (h : Entr ds ks vs es) : es.length = ks.length ∧ vs.length = ks.length := by
  induction h with
  | nil => exact ⟨rfl, rfl⟩
  | cons _ _ _ _ ih => exact ⟨by rw [List.length_cons, List.length_cons, ih.1], by rw [List.length_cons, List.length_cons, ih.2]⟩
def ItKx (d : Addr) (o : Obj) (ks : List V) : L2.It :=
  ⟨fun i H => H d = some (.ext (objIs d o)) ∧ i < ks.length, fun i H x H' => H' = H ∧ ks[i]? = some x, fun i H => H d = some (.ext (objIs d o)) ∧ ks.length ≤ i⟩
def ItIx (d : Addr) (o : Obj) (ks vs : List V) : L2.It :=
  ⟨fun i H => H d = some (.ext (objIs d o)) ∧ i < ks.length, fun i H x H' => ∃ T k v, ks[i]? = some k ∧ vs[i]? = some v ∧ x = .ref T ∧ H T = none ∧ H' = upd H T (.tup [k, v]), fun i H => H d = some (.ext (objIs d o)) ∧ ks.length ≤ i⟩
section
variable {P : Program} {w : World} {K : PySem.W.Frag} {tg : Expr} {d : Addr} {o : Obj} {es : Array DictEntry} {ep : Nat} {ds : List D} {ks vs : List V}
theorem turn_kx (it : Addr) (hs : (d == sysModules) = false) (hx : o.ExactDict) (hod : o.data = .dict es ep) (en : Entr ds ks vs es.toList) : Turn P w K tg (ItKx d o ks) [it] it (fun i h => h.IsKeyIter it d i ks.length ep) where
  mem := by simp
  obj := fun i h st b hb => by
    have e : b = it := by simpa using hb
    subst e
    obtain ⟨oi, e, c, dd⟩ := st
    exact ⟨oi, e, fun v z => by rw [dd] at z; cases z⟩
  keep := fun i h h' st k => st.at fun oi e => k it (by simp) oi e
  item := by
    intro X hP hw hK hc i pins s σ H E I hf st hg
    subst hP hw hK
    obtain ⟨hd, hi⟩ := hg
    obtain ⟨f0, f1, f2, f3, f4, f5⟩ := hf it (by simp)
    have hgd : s.heap.get? d = some o := (I.hok d _ hd).1
    have hsz : es.size = ks.length := by rw [← Array.length_toList]; exact en.len.1
    obtain ⟨e0, u, h1, _, h2, _⟩ := en.get (List.getElem?_eq_getElem hi)
    have hen : es[i]? = some e0 := by rw [← Array.getElem?_toList]; exact h1
    refine next_key_item st hgd hod hsz hen fun h' st' sb => ?_
    have I1 : Inv X pins σ H { s with heap := h' } := I.turned (t' := s.toks) (fun b ob hb e => (sb.2 b hb).trans e) f0 f1 f3 f4 f5
    obtain ⟨oi, e, c, dd⟩ := id st'
    exact ⟨e0.key, rfl, go_of (s := { s with heap := h' }) e c dd (by decide) ⟨_, H, I1, h2, ⟨rfl, List.getElem?_eq_getElem hi⟩, st', fun b hb => (hf b hb).1⟩⟩
  done := by
    intro X hP hw hK hc i pins s σ H E I hf st hg
    subst hP hw hK
    obtain ⟨hd, hi⟩ := hg
    obtain ⟨f0, f1, f2, f3, f4, f5⟩ := hf it (by simp)
    have hgd : s.heap.get? d = some o := (I.hok d _ hd).1
    have hsz : es.size = ks.length := by rw [← Array.length_toList]; exact en.len.1
    exact next_key_end (I.ok.hd hc) st hgd hod hsz hi fun h' eb => ⟨rfl, I.turned (t' := s.toks) (fun b ob hb e => eb b ob hb e) f0 f1 f3 f4 f5⟩
  self := fun A i s Q E st h => by
    refine wpAny_pyIter_slot st.typeIs F.slot_dict_keyiterator_iter (wpAny_call_entry F.slot_dict_keyiterator_iter st.typeIs F.entry_dict_keyiterator_iter ?_ (F.args_dict_keyiterator_iter_1 _))
    show wpAny _ _ (ret (.ref it)) _ _ s
    exact wpAny_pure ⟨_, rfl, "dict_keyiterator", _, st.typeIs, F.slot_dict_keyiterator_next.lookup, h⟩
theorem turn_ix {elts : List Expr} {kk : Nat} {tpos : Pos} (it : Addr) (hx : o.ExactDict) (hod : o.data = .dict es ep) (en : Entr ds ks vs es.toList) :
    Turn P w K (.Tuple elts kk tpos) (ItIx d o ks vs) [it] it (fun i h => ∃ ok ov, IsItemIter h it d i es.size ep ok ov) where
  mem := by simp
  obj := fun i h st b hb => by
    have e : b = it := by simpa using hb
    subst e
    obtain ⟨ok, ov, e⟩ := st
    exact ⟨_, e, fun v z => nomatch z⟩
  keep := fun i h h' st k => let ⟨ok, ov, e⟩ := st; ⟨ok, ov, k it (by simp) _ e⟩
  item := by
    intro X hP hw hK hc i pins s σ H E I hf st hg
    subst hP hw hK
    obtain ⟨hd, hi⟩ := hg
    have hgd : s.heap.get? d = some o := (I.hok d _ hd).1
    have hsz : es.size = ks.length := by rw [← Array.length_toList]; exact en.len.1
    obtain ⟨e0, v0, h1, h3, h2, h4⟩ := en.get (List.getElem?_eq_getElem hi)
    have hi2 : i < es.size := by omega
    have hen : es[i] = e0 := by
      have : es[i]? = some e0 := by rw [← Array.getElem?_toList]; exact h1
      rw [Array.getElem?_eq_getElem hi2] at this
      exact Option.some.inj this
    obtain ⟨ok, ov, he⟩ := st
    have hlt : it < s.heap.objs.size := Heap.lt_size he
    refine wpAny_pyNext_items_item_raw he ⟨o, hgd, hx, hod⟩ hi2 fun h' ho hT hz hk => ?_
    refine ⟨_, rfl, wpAny_letOwnedTupleGo_items (s := { s with heap := h' }) ho fun h'' he' sb => ?_⟩
    have hT2 : h''.get? s.heap.objs.size = some { cls := .type "tuple", data := .seq #[es[i].key, es[i].val] } := (sb.2 _ (Nat.ne_of_gt hlt)).trans hT
    have new : ObjOk X.prog X.w (upd H s.heap.objs.size (.tup [ks[i], v0])) h'' s.heap.objs.size (.tup [ks[i], v0]) :=
      ⟨by show 2 ≤ sizeLine; decide, [es[i].key, es[i].val], .cons (by rw [hen]; exact h2) (.cons (by rw [hen]; exact h4) .nil), ⟨_, hT2, rfl, _, rfl⟩⟩
    have I1 : Inv X pins σ (upd H s.heap.objs.size (.tup [ks[i], v0])) { s with heap := h'' } :=
      I.turnedNew (t' := s.toks) (ch := [it]) (fun b ob hb e => (sb.2 b (by simpa using hb)).trans (hk b ob (by simpa using hb) e)) hf (Nat.le_refl _) new
    refine ⟨.ref s.heap.objs.size, _, I1, rfl, ⟨_, ks[i], v0, List.getElem?_eq_getElem hi, h3, rfl, I.hok.fresh (Nat.le_refl _), rfl⟩, ⟨es[i].key, es[i].val, he'⟩, fun b hb => ?_⟩
    have e : b = it := by simpa using hb
    rw [e, upd_ne (Nat.ne_of_lt hlt)]
    exact (hf it (by simp)).1
  done := by
    intro X hP hw hK hc i pins s σ H E I hf st hg
    subst hP hw hK
    obtain ⟨hd, hi⟩ := hg
    obtain ⟨f0, f1, f2, f3, f4, f5⟩ := hf it (by simp)
    have hgd : s.heap.get? d = some o := (I.hok d _ hd).1
    have hsz : es.size = ks.length := by rw [← Array.length_toList]; exact en.len.1
    obtain ⟨ok, ov, he⟩ := st
    exact wpAny_pyNext_items_end_raw (I.ok.hd hc) he ⟨o, hgd, hx, hod⟩ (by omega) fun h' eb => ⟨rfl, I.turned (t' := s.toks) (fun b ob hb e => eb b ob hb e) f0 f1 f3 f4 f5⟩
  self := fun A i s Q E st h => let ⟨_, _, e⟩ := st; PySem.W.kcp_self e h
end
/-- for k in d -/
def iKx (td : TE) : TI := fun σ H R => td σ H fun x H1 => ∃ d o ds ks vs, x = .ref d ∧ (d == sysModules) = false ∧ H1 d = some (.ext (objIs d o)) ∧ DctO o ds ks vs ∧ R (ItKx d o ks) H1
def iIx (td : TE) : TI := fun σ H R => td σ H fun x H1 => ∃ d o ds ks vs, x = .ref d ∧ (d == sysModules) = false ∧ H1 d = some (.ext (objIs d o)) ∧ DctO o ds ks vs ∧ R (ItIx d o ks vs) H1
section
variable {X : Cx} {tg e : Expr} {td : TE} {apos cpos : Pos}
theorem pi_kx (he : PE X e td) : PI X tg e (iKx td) := by
  refine ⟨fun pins s σ H R I h => ?_⟩
  refine thn (he.run pins s σ H _ I h) fun u s1 ⟨x, H1, I1, rx, d, o, ds, ks, vs, ex, hs, hd, w, q⟩ => ?_
  subst ex
  obtain rfl : u = Value.ref d := rx
  have hgd : s1.heap.get? d = some o := (I1.hok d _ hd).1
  obtain ⟨es, ep, hdt, en⟩ := w.da
  have hsz : es.size = ks.length := by rw [← Array.length_toList]; exact en.len.1
  refine iter_keys hs hgd w.ex hdt (pi_one (tk := s1.toks) I1 _ (turn_kx _ hs w.ex hdt en) ⟨_, Heap.get?_push_size _ rfl, rfl, ?_⟩ q)
  rw [hsz] <;> rfl
theorem pi_ix {elts : List Expr} {kk : Nat} {tpos : Pos} (he : PE X e td) (hbase : attributeBase e "items" X.env (eval e X.env) = eval e X.env) (hline : (apos.endLine == cpos.line) = true) :
    PI X (.Tuple elts kk tpos) (.Call (.Attribute e "items" apos) [] [] cpos) (iIx td) := by
  refine ⟨fun pins s σ H R I h => ?_⟩
  refine wpAny_Call_method (T := "dict") (id := "dict.items") hbase rfl hline F.plainAttrs_dict F.slot_dict_items F.type_dict_items (thn (he.run pins s σ H _ I h) fun u s1 ⟨x, H1, I1, rx, d, o, ds, ks, vs, ex, hs, hd, w, q⟩ => ?_)
  subst ex
  obtain rfl : u = Value.ref d := rx
  have hgd : s1.heap.get? d = some o := (I1.hok d _ hd).1
  obtain ⟨es, ep, hdt, en⟩ := w.da
  have raw : s1.heap.DictRaw d es ep := ⟨o, hgd, w.ex, hdt⟩
  refine ⟨raw.typeIs, fun b z => by cases z; exact ⟨o, hgd, w.ex.2.1⟩, ?_⟩
  have I2 : Inv X pins σ H1 { s1 with heap := s1.heap.push { cls := .type "dict_items", data := .fields #[.ref d] } } := I1.kept (t' := s1.toks) fun b ob q => Heap.get?_push_of_some _ q
  have fin : wpAny (model X.prog X.w) X.A (pyIter (.ref s1.heap.objs.size)) (PIE X pins σ (.Tuple elts kk tpos) R) X.xe { s1 with heap := s1.heap.push { cls := .type "dict_items", data := .fields #[.ref d] } } := by
    refine wpAny_pyIter_items_raw (d := d) ⟨_, Heap.get?_push_size _ rfl, rfl, rfl⟩ (raw.at fun o q => Heap.get?_push_of_some _ q) (pi_one (tk := s1.toks) I2 _ (turn_ix _ w.ex hdt en) ⟨.none, .none, ?_⟩ q)
    exact Heap.get?_push_size _ rfl
  show wpAny _ _ (callWith cpos (.builtin "dict.items") [.ref d] [] []) _ X.xe s1
  exact method_meetsIn F.slot_dict_items F.entry_dict_items rfl (PySem.evalArgs_none ⟨rfl, raw.typeIs, F.args_dict_items_1 _, _, meets_dict_items_raw d hs, by first | exact ⟨es, ep, raw, fin⟩ | exact ⟨⟨es, ep, raw⟩, fin⟩⟩)
end
end BT
namespace BT
open PySem PySem.Spec PyProof.Rows L2
section
variable {K : PySem.W.Frag} {W : WX} {Z : Ent} {F F' H H' : Hp} {env : Env} {σ : L2.St}
/-! ## targets -/
/-- an item as the walk hands it on: a value, or a pair just made -/
def ItemV (K : PySem.W.Frag) (F H : Hp) (x : D) (v : V) : Prop := Rep K F x v ∨ ∃ T vs ds, v = .ref T ∧ x = .tuple ds ∧ H T = some (.tup vs) ∧ Reps K F ds vs
def tgIn : Tg → List Nat → Bool
  | .v i, vs => vs.contains i
  | .p2 a b, vs => tgIn a vs && tgIn b vs
  | .p3 a b c, vs => tgIn a vs && tgIn b vs && tgIn c vs
def isTp : Tg → Bool
  | .v _ => false
  | _ => true
def gT (K : PySem.W.Frag) (t : Tg) : TG := fun v σ H Q => ∃ Z F env x e2, R K Z F env σ H ∧ (if isTp t = true then ItemV K F H x v else Rep K F x v) ∧ bindT t x env = some e2 ∧
  ∀ σ2, R K Z F e2 σ2 H → (∀ vs, tgIn t vs = true → wipe σ2 vs = wipe σ vs) → Q σ2 H
theorem wipe_set {σ : L2.St} {i : Nat} {x : Option V} : ∀ {vs : List Nat}, vs.contains i = true → wipe (σ.set i x) vs = wipe σ vs
  | [], h => by cases h
  | v :: vs, h => by
    unfold wipe
    by_cases hv : v = i
    · subst hv
      by_cases hm : vs.contains v = true
      · rw [wipe_set hm]
      · have hm' : v ∉ vs := fun z => hm (List.contains_iff_mem.mpr z)
        refine List.ext_getElem? fun j => ?_
        by_cases hj : j = v
        · subst hj
          rw [List.getElem?_set, List.getElem?_set]
          simp only [if_true, wipe_length, List.length_set]
        · rw [List.getElem?_set_ne (Ne.symm hj), List.getElem?_set_ne (Ne.symm hj)]
          clear h hm
          have out : ∀ (τ : L2.St), ∀ j, j ≠ v → (wipe (τ.set v x) vs)[j]? = (wipe τ vs)[j]? := by
            intro τ
            clear hm'
            induction vs with
            | nil => intro j hj; exact List.getElem?_set_ne (Ne.symm hj)
            | cons w vs ih =>
              intro j hj
              unfold wipe
              rw [List.getElem?_set, List.getElem?_set, ih j hj]
              simp only [wipe_length, List.length_set]
          exact out σ j hj
    · have h' : vs.contains i = true := by
        rw [List.contains_cons, Bool.or_eq_true] at h
        rcases h with h | h
        · exact absurd (by simpa using h) (Ne.symm hv)
        · exact h
      rw [wipe_set h']
theorem R.setV' (r : R K Z F env σ H) {i : Nat} {d : D} {v : V} (q : Rep K F d v) : R K Z F (env.set i (.val d)) (σ.set i (some v)) H := by
  by_cases hi : i < env.length
  · exact r.setV hi q
  · rw [List.set_eq_of_length_le (by omega), List.set_eq_of_length_le (by rw [← r.len]; omega)]
    exact r
section
variable {X : Cx} {pos : Pos}
theorem PG.imp {tg : Expr} {t t' : TG} (h : PG X tg t) (i : ∀ v σ H Q, t' v σ H Q → t v σ H Q) : PG X tg t' := ⟨fun pins s σ H v u Q I r q => h.run pins s σ H v u Q I r (i v σ H Q q)⟩
theorem pg_v {i : Nat} {x : Str} (h : PG X (.Name x pos) (gName i)) : PG X (.Name x pos) (gT X.K (.v i)) := by
  refine PG.imp h fun v σ H Q ⟨Z, F, env, x', e2, hr, hv, hb, q⟩ => ?_
  rw [if_neg (show ¬ isTp (.v i) = true from Bool.false_ne_true)] at hv
  cases hb
  exact q _ (hr.setV' hv) fun vs m => wipe_set m
theorem gT_sub {K : PySem.W.Frag} {t : Tg} {v : V} {σ : L2.St} {H : Hp} {Q : L2.St → Hp → Prop} {Z : Ent} {F : Hp} {env e2 : Env} {x : D} (r : R K Z F env σ H) (h : Rep K F x v) (hb : bindT t x env = some e2)
    (q : ∀ σ2, R K Z F e2 σ2 H → (∀ vs, tgIn t vs = true → wipe σ2 vs = wipe σ vs) → Q σ2 H) : gT K t v σ H Q := by
  refine ⟨Z, F, env, x, e2, r, ?_, hb, q⟩
  cases isTp t with
  | true => rw [if_pos rfl]; exact .inl h
  | false => rw [if_neg Bool.false_ne_true]; exact h
theorem item_tup {K : PySem.W.Frag} {F H : Hp} {ds : List D} {v : V} (s : Same F H) (h : ItemV K F H (.tuple ds) v) : ∃ a xs, v = .ref a ∧ SqT K H a xs ∧ Reps K F ds xs := by
  rcases h with h | ⟨T, vs, es, rfl, e, e2, r⟩
  · cases h with | tup h r => exact ⟨_, _, rfl, (h.mono s).sq, r⟩
  · cases e
    exact ⟨T, vs, rfl, .inl (.inl e2), r⟩
variable {e1 e2 e3 : Expr} {a b c : Tg} {k : Nat}
theorem pg_p2 (hc : X.calm = true) (h1 : PG X e1 (gT X.K a)) (h2 : PG X e2 (gT X.K b)) (s1 : (assignEach [e1, e2] X.env).map (·.2) = assign e1 X.env :: (assignEach [e2] X.env).map (·.2))
    (s2 : (assignEach [e2] X.env).map (·.2) = assign e2 X.env :: (assignEach [] X.env).map (·.2)) (hn : (assignEach [e1, e2] X.env).length = 2) (hst : (assignEach [e1, e2] X.env).findIdx? (·.1) = none) : PG X (.Tuple [e1, e2] k pos) (gT X.K (.p2 a b)) := by
  refine PG.imp (pg_tup hc (pgs_cons h1 (pgs_cons h2 pgs_nil s2) s1) hn hst) fun v σ H Q ⟨Z, F, env, x, ee, hr, hv, hb, q⟩ => ?_
  rw [if_pos (show isTp (.p2 a b) = true from rfl)] at hv
  unfold bindT at hb
  split at hb
  · rename_i x' y z
    obtain ⟨e4, b1, b2⟩ := bind_none hb
    obtain ⟨ad, xs, rfl, sq, rr⟩ := item_tup hr.fh hv
    have hl := rr.length
    cases rr with
    | cons q1 rr =>
      cases rr with
      | cons q2 rr =>
        cases rr
        refine ⟨ad, _, rfl, sq, rfl, _, _, rfl, gT_sub hr q1 b1 fun σ2 r2 w2 => ⟨_, _, rfl, gT_sub r2 q2 b2 fun σ3 r3 w3 => ⟨rfl, q σ3 r3 fun vs hm => ?_⟩⟩⟩
        unfold tgIn at hm
        rw [Bool.and_eq_true] at hm
        rw [w3 vs hm.2, w2 vs hm.1]
  · cases hb
theorem pg_p3 (hc : X.calm = true) (h1 : PG X e1 (gT X.K a)) (h2 : PG X e2 (gT X.K b)) (h3 : PG X e3 (gT X.K c)) (s1 : (assignEach [e1, e2, e3] X.env).map (·.2) = assign e1 X.env :: (assignEach [e2, e3] X.env).map (·.2))
    (s2 : (assignEach [e2, e3] X.env).map (·.2) = assign e2 X.env :: (assignEach [e3] X.env).map (·.2)) (s3 : (assignEach [e3] X.env).map (·.2) = assign e3 X.env :: (assignEach [] X.env).map (·.2))
    (hn : (assignEach [e1, e2, e3] X.env).length = 3) (hst : (assignEach [e1, e2, e3] X.env).findIdx? (·.1) = none) : PG X (.Tuple [e1, e2, e3] k pos) (gT X.K (.p3 a b c)) := by
  refine PG.imp (pg_tup hc (pgs_cons h1 (pgs_cons h2 (pgs_cons h3 pgs_nil s3) s2) s1) hn hst) fun v σ H Q ⟨Z, F, env, x, ee, hr, hv, hb, q⟩ => ?_
  rw [if_pos (show isTp (.p3 a b c) = true from rfl)] at hv
  unfold bindT at hb
  split at hb
  · rename_i x' y z u
    obtain ⟨e5, b1, b0⟩ := bind_none hb
    obtain ⟨e4, b2, b3⟩ := bind_none b0
    obtain ⟨ad, xs, rfl, sq, rr⟩ := item_tup hr.fh hv
    cases rr with
    | cons q1 rr =>
      cases rr with
      | cons q2 rr =>
        cases rr with
        | cons q3 rr =>
          cases rr
          refine ⟨ad, _, rfl, sq, rfl, _, _, rfl, gT_sub hr q1 b1 fun σ2 r2 w2 => ⟨_, _, rfl, gT_sub r2 q2 b2 fun σ3 r3 w3 => ⟨_, _, rfl, gT_sub r3 q3 b3 fun σ4 r4 w4 => ⟨rfl, q σ4 r4 fun vs hm => ?_⟩⟩⟩⟩
          unfold tgIn at hm
          rw [Bool.and_eq_true, Bool.and_eq_true] at hm
          rw [w4 vs hm.2, w3 vs hm.1.2, w2 vs hm.1.1]
  · cases hb
end

/-! ## walks -/
structure WalksD (K : PySem.W.Frag) (F : Hp) (J : L2.It) (xs : List D) (pr : Bool) : Prop where
  go : ∀ i x H, Same F H → xs[i]? = some x → J.go i H
  stop : ∀ i H, Same F H → xs.length = i → J.stop i H
  yld : ∀ i x v H H', Same F H → xs[i]? = some x → J.yld i H v H' → (H' = H ∧ Rep K F x v) ∨ (pr = true ∧ ∃ T vs ds, v = .ref T ∧ H T = none ∧ H' = upd H T (.tup vs) ∧ x = .tuple ds ∧ Reps K F ds vs)
theorem walk_list {a : Addr} {vs : List V} {ds : List D} (h : LstAt K F a vs) (r : Reps K F ds vs) : WalksD K F (Itl K a) ds false := by
  refine ⟨fun i x H s e => ?_, fun i H s e => ⟨vs, (h.mono s).sq, by rw [r.length, e]; exact Nat.le_refl _⟩, fun i x v H H' s e ⟨e1, y⟩ => ?_⟩
  · obtain ⟨v, e1, _⟩ := r.get e
    exact ⟨vs, v, (h.mono s).sq, e1⟩
  · obtain ⟨v', e2, q⟩ := r.get e
    have e3 := y vs (h.mono s).sq
    rw [e2] at e3
    cases e3
    exact .inl ⟨e1, q⟩
theorem walk_tuple {a : Addr} {vs : List V} {ds : List D} (h : TupAt K F a vs) (r : Reps K F ds vs) : WalksD K F (Itt K a) ds false := by
  refine ⟨fun i x H s e => ?_, fun i H s e => ⟨vs, (h.mono s).sq, by rw [r.length, e]; exact Nat.le_refl _⟩, fun i x v H H' s e ⟨e1, y⟩ => ?_⟩
  · obtain ⟨v, e1, _⟩ := r.get e
    exact ⟨vs, v, (h.mono s).sq, e1⟩
  · obtain ⟨v', e2, q⟩ := r.get e
    have e3 := y vs (h.mono s).sq
    rw [e2] at e3
    cases e3
    exact .inl ⟨e1, q⟩
theorem rngL_get {lo : Int} {n i : Nat} {x : D} (e : (rngL lo n)[i]? = some x) : i < n ∧ x = .int (lo + (i : Int)) := by
  unfold rngL at e
  rw [List.getElem?_map] at e
  by_cases h : i < n
  · rw [List.getElem?_range h] at e
    cases e
    exact ⟨h, rfl⟩
  · rw [List.getElem?_eq_none (by rw [List.length_range]; omega)] at e
    cases e
theorem rngC_get {lo c : Int} {n i : Nat} {x : D} (e : (rngC lo c n)[i]? = some x) : i < n ∧ x = .int (lo + (i : Int) * c) := by
  unfold rngC at e
  rw [List.getElem?_map] at e
  by_cases h : i < n
  · rw [List.getElem?_range h] at e
    cases e
    exact ⟨h, rfl⟩
  · rw [List.getElem?_eq_none (by rw [List.length_range]; omega)] at e
    cases e
theorem rngL_len {lo : Int} {n : Nat} : (rngL lo n).length = n := by unfold rngL; rw [List.length_map, List.length_range]
theorem rngC_len {lo c : Int} {n : Nat} : (rngC lo c n).length = n := by unfold rngC; rw [List.length_map, List.length_range]
theorem walk_r {lo : Int} {n : Nat} : WalksD K F (Itr lo n) (rngL lo n) false :=
  ⟨fun i x H s e => (rngL_get e).1, fun i H s e => by rw [rngL_len] at e; exact Nat.le_of_eq e, fun i x v H H' s e ⟨e1, y⟩ => .inl ⟨e1, by rw [(rngL_get e).2, y]; exact .int _⟩⟩
theorem walk_c {lo c : Int} {n : Nat} : WalksD K F (Itc lo c n) (rngC lo c n) false :=
  ⟨fun i x H s e => (rngC_get e).1, fun i H s e => by rw [rngC_len] at e; exact Nat.le_of_eq e, fun i x v H H' s e ⟨e1, y⟩ => .inl ⟨e1, by rw [(rngC_get e).2, y]; exact .int _⟩⟩
theorem walk_kx {a : Addr} {o : Obj} {vs : List V} {ds : List D} (h : F a = some (.ext (objIs a o))) (r : Reps K F ds vs) : WalksD K F (ItKx a o vs) ds false := by
  refine ⟨fun i x H s e => ?_, fun i H s e => ⟨s _ _ h, by rw [r.length, e]; exact Nat.le_refl _⟩, fun i x v H H' s e ⟨e1, y⟩ => ?_⟩
  · obtain ⟨v, e1, _⟩ := r.get e
    exact ⟨s _ _ h, (List.getElem?_eq_some_iff.mp e1).1⟩
  · obtain ⟨v', e2, q⟩ := r.get e
    rw [e2] at y
    cases y
    exact .inl ⟨e1, q⟩
theorem walk_ix {a : Addr} {o : Obj} {ks vs : List V} {kvs : List (D × D)} (h : F a = some (.ext (objIs a o))) (r : Reps K F (kvs.map (·.1)) ks) (r2 : Reps K F (kvs.map (·.2)) vs) : WalksD K F (ItIx a o ks vs) (kvs.map fun p => .tuple [p.1, p.2]) true := by
  have hl : ks.length = kvs.length := by rw [r.length, List.length_map]
  refine ⟨fun i x H s e => ⟨s _ _ h, ?_⟩, fun i H s e => ⟨s _ _ h, by rw [hl, ← e, List.length_map]; exact Nat.le_refl _⟩, fun i x v H H' s e ⟨T, k, v1, e1, e2, ev, hT, hH⟩ => ?_⟩
  · have := (List.getElem?_eq_some_iff.mp e).1
    rw [List.length_map] at this
    omega
  · rw [List.getElem?_map] at e
    cases hd : kvs[i]? with
    | none => rw [hd] at e; cases e
    | some p =>
      rw [hd] at e
      cases e
      obtain ⟨u1, f1, q1⟩ := r.get (i := i) (d := p.1) (by rw [List.getElem?_map, hd]; rfl)
      obtain ⟨u2, f2, q2⟩ := r2.get (i := i) (d := p.2) (by rw [List.getElem?_map, hd]; rfl)
      rw [e1] at f1
      rw [e2] at f2
      cases f1
      cases f2
      exact .inr ⟨rfl, T, _, _, ev, hT, hH, rfl, .cons q1 (.cons q2 .nil)⟩
theorem walk_str {z : Str} : WalksD K F (Its z) (chs z) false := by
  have hl : (chs z).length = z.cps.size := by unfold chs; rw [List.length_map, Array.length_toList]
  refine ⟨fun i x H s e => ?_, fun i H s e => by rw [← e, hl]; exact Nat.le_refl _, fun i x v H H' s e ⟨e1, c, e2, ev⟩ => ?_⟩
  · have := (List.getElem?_eq_some_iff.mp e).1
    rw [hl] at this
    exact this
  · unfold chs at e
    rw [List.getElem?_map, Array.getElem?_toList, e2] at e
    cases e
    subst ev
    exact .inl ⟨e1, .str _⟩
/-- a sequence by its kind -/
def SeqAt (k : Bool) (K : PySem.W.Frag) (F : Hp) (a : Addr) (vs : List V) : Prop := if k = true then TupAt K F a vs else LstAt K F a vs
theorem SeqAt.sqB {k : Bool} {a : Addr} {vs : List V} (h : SeqAt k K F a vs) (s : Same F H) : SqB k K H a vs := by
  cases k with
  | true => exact (TupAt.mono h s).sq
  | false => exact (LstAt.mono h s).sq
theorem SeqAt.mono {k : Bool} {a : Addr} {vs : List V} (h : SeqAt k K F a vs) (s : Same F F') : SeqAt k K F' a vs := by
  cases k with
  | true => exact TupAt.mono h s
  | false => exact LstAt.mono h s
theorem Rep.seq {x : D} {ds : List D} {v : V} (h : Rep K F x v) (e : items? x = some ds) : ∃ k a vs, v = .ref a ∧ SeqAt k K F a vs ∧ Reps K F ds vs := by
  rcases items_list e with rfl | rfl
  · cases h with | lst h r => exact ⟨false, _, _, rfl, h, r⟩
  · cases h with | tup h r => exact ⟨true, _, _, rfl, h, r⟩
theorem walk_en {k : Bool} {a : Addr} {vs : List V} {ds : List D} (h : SeqAt k K F a vs) (r : Reps K F ds vs) : WalksD K F (ItEn K k a) (ds.zipIdx.map fun p => .tuple [.int (p.2 : Nat), p.1]) true := by
  have gt : ∀ {i : Nat} {x : D}, (ds.zipIdx.map fun p => PyData.tuple [.int (p.2 : Nat), p.1])[i]? = some x → ∃ d, ds[i]? = some d ∧ x = .tuple [.int (i : Nat), d] := fun {i x} e => by
    rw [List.getElem?_map, List.getElem?_zipIdx] at e
    cases hd : ds[i]? with
    | none => rw [hd] at e; cases e
    | some d => rw [hd] at e; cases e; exact ⟨d, rfl, by simp⟩
  refine ⟨fun i x H s e => ?_, fun i H s e => ⟨vs, h.sqB s, by rw [r.length]; rwa [List.length_map, List.length_zipIdx] at e⟩, fun i x v H H' s e ⟨T, w, ev, hT, hH, y⟩ => ?_⟩
  · obtain ⟨d, e1, _⟩ := gt e
    obtain ⟨v, e2, _⟩ := r.get e1
    exact ⟨vs, v, h.sqB s, e2⟩
  · obtain ⟨d, e1, e2⟩ := gt e
    obtain ⟨v', e3, q⟩ := r.get e1
    have e4 := y vs (h.sqB s)
    rw [e3] at e4
    cases e4
    exact .inr ⟨rfl, T, _, _, ev, hT, hH, e2, .cons (.int _) (.cons q .nil)⟩
theorem walk_zp {k l : Bool} {a b : Addr} {vs ws : List V} {ds es : List D} (h : SeqAt k K F a vs) (r : Reps K F ds vs) (h2 : SeqAt l K F b ws) (r2 : Reps K F es ws) : WalksD K F (ItZp K k l a b) ((ds.zip es).map fun p => .tuple [p.1, p.2]) true := by
  have gt : ∀ {i : Nat} {x : D}, ((ds.zip es).map fun p => PyData.tuple [p.1, p.2])[i]? = some x → ∃ d e, ds[i]? = some d ∧ es[i]? = some e ∧ x = .tuple [d, e] := fun {i x} e => by
    rw [List.getElem?_map] at e
    cases hz : (ds.zip es)[i]? with
    | none => rw [hz] at e; cases e
    | some q =>
      rw [hz] at e
      cases e
      have := List.getElem?_zip_eq_some.mp hz
      exact ⟨q.1, q.2, this.1, this.2, rfl⟩
  refine ⟨fun i x H s e => ?_, fun i H s e => ⟨vs, ws, h.sqB s, h2.sqB s, ?_⟩, fun i x v H H' s e ⟨T, w, w2, ev, hT, hH, y, y2⟩ => ?_⟩
  · obtain ⟨d, d2, e1, e2, _⟩ := gt e
    obtain ⟨v, e3, _⟩ := r.get e1
    obtain ⟨v2, e4, _⟩ := r2.get e2
    exact ⟨vs, ws, v, v2, h.sqB s, h2.sqB s, e3, e4⟩
  · rw [List.length_map, List.length_zip] at e
    rw [r.length, r2.length]
    omega
  · obtain ⟨d, d2, e1, e2, e5⟩ := gt e
    obtain ⟨v', e3, q⟩ := r.get e1
    obtain ⟨v2, e4, q2⟩ := r2.get e2
    have e6 := y vs (h.sqB s)
    have e7 := y2 ws (h2.sqB s)
    rw [e3] at e6
    rw [e4] at e7
    cases e6
    cases e7
    exact .inr ⟨rfl, T, _, _, ev, hT, hH, e5, .cons q (.cons q2 .nil)⟩
end
/-! ## what is walked -/
section
variable {X : Cx} {C : Calls} {W : WX} {a b c e tg : Expr} {a' b' c' : IE} {pos p : Pos}
def kI (K : PySem.W.Frag) (pr : Bool) (Q : L2.It → Hp → Prop) (Z : Ent) (F : Hp) (σ : L2.St) : List D → Env → Prop := fun xs env => ∀ F' H' J, Same F F' → R K Z F' env σ H' → WalksD K F' J xs pr → Q J H'
def tI (K : PySem.W.Frag) (W : WX) (pr : Bool) (m : Env → Res (List D)) : TI := fun σ H Q => ∃ Z F env, R K Z F env σ H ∧ Okr (m env) (kI K pr Q Z F σ) (kX K W Z F σ)
abbrev EI (X : Cx) (C : Calls) (W : WX) (pr : Bool) (it : It) : TI := tI X.K W pr (evIt C it)
theorem PI.imp {t t' : TI} (h : PI X tg e t) (i : ∀ σ H Q, t' σ H Q → t σ H Q) : PI X tg e t' := ⟨fun pins s σ H Q I q => h.run pins s σ H Q I (i σ H Q q)⟩
theorem pi_e (ha : PE X a (EV X C W false a')) : PI X tg a (EI X C W false (.e a')) := by
  refine ⟨fun pins s σ H Q I ⟨Z, F, env, r, h⟩ => ?_⟩
  simp only [evIt] at h
  cases h1 : ev C a' env with
  | ok x e1 =>
    rw [h1] at h
    simp only at h
    cases x with
    | list ds =>
      refine (pi_list ha).run pins s σ H Q I ⟨Z, F, env, r, ?_⟩
      rw [h1]
      intro F1 H1 v s1 r1 q1
      rw [Val.ff] at q1
      cases q1 with
      | lst hl rr => exact ⟨_, rfl, ⟨_, (hl.mono r1.fh).sq⟩, h F1 H1 _ s1 r1 (walk_list hl rr)⟩
    | tuple ds =>
      refine (pi_tup ha).run pins s σ H Q I ⟨Z, F, env, r, ?_⟩
      rw [h1]
      intro F1 H1 v s1 r1 q1
      rw [Val.ff] at q1
      cases q1 with
      | tup hl rr => exact ⟨_, rfl, ⟨_, (hl.mono r1.fh).sq⟩, h F1 H1 _ s1 r1 (walk_tuple hl rr)⟩
    | dict kvs =>
      refine (pi_kx ha).run pins s σ H Q I ⟨Z, F, env, r, ?_⟩
      rw [h1]
      intro F1 H1 v s1 r1 q1
      rw [Val.ff] at q1
      cases q1 with
      | dct hl rr rv =>
        obtain ⟨hd, o, eo, w⟩ := id hl
        exact ⟨_, o, _, _, _, rfl, hd, r1.fh _ _ eo, w, h F1 H1 _ s1 r1 (walk_kx eo rr)⟩
    | str z =>
      refine (pi_str ha).run pins s σ H Q I ⟨Z, F, env, r, ?_⟩
      rw [h1]
      intro F1 H1 v s1 r1 q1
      rw [Val.ff] at q1
      cases q1
      simp only [iter?] at h
      split at h
      · rename_i hz
        split at hz
        · cases hz; exact ⟨z, rfl, h F1 H1 _ s1 r1 walk_str⟩
        · cases hz
      · exact h.elim
    | _ => exact h.elim
  | exc c e1 =>
    rw [h1] at h
    refine (pi_list ha).run pins s σ H Q I ⟨Z, F, env, r, ?_⟩
    rw [h1]
    exact h
  | stuck => rw [h1] at h; exact h.elim
theorem pi_its {elts : List Expr} {kk : Nat} {tpos apos cpos : Pos} (ha : PE X a (EV X C W false a')) (hbase : attributeBase a "items" X.env (eval a X.env) = eval a X.env) (hline : (apos.endLine == cpos.line) = true) :
    PI X (.Tuple elts kk tpos) (.Call (.Attribute a "items" apos) [] [] cpos) (EI X C W true (.items a')) := by
  refine PI.imp (pi_ix ha hbase hline) fun σ H Q ⟨Z, F, env, r, h⟩ => ⟨Z, F, env, r, ?_⟩
  simp only [evIt] at h
  cases h1 : ev C a' env with
  | ok x e1 =>
    rw [h1] at h
    simp only at h
    cases x with
    | dict kvs =>
      intro F1 H1 v s1 r1 q1
      rw [Val.ff] at q1
      cases q1 with
      | dct hl rr rv =>
        obtain ⟨hd, o, eo, w⟩ := id hl
        exact ⟨_, o, _, _, _, rfl, hd, r1.fh _ _ eo, w, h F1 H1 _ s1 r1 (walk_ix eo rr rv)⟩
    | _ => exact h.elim
  | exc c e1 => rw [h1] at h; exact h
  | stuck => rw [h1] at h; exact h.elim
theorem smallI_iff {n : Int} (h : smallI n = true) : -1000000000 ≤ n ∧ n ≤ 1000000000 := of_decide_eq_true h
theorem pi_r1 (hg : Gl X "range") (hm : X.mg "range" = none) (ha : PE X a (EV X C W false a')) (hs : starEach [a] X.env = [(false, eval a X.env)]) (hs2 : starEach [a] X.env = (false, eval a X.env) :: starEach [] X.env) : PI X tg (.Call (.Name "range" p) [a] [] pos) (EI X C W false (.r1 a')) := by
  refine PI.imp (pi_range1 hg hm (pa_cons ha pa_nil hs2) hs) fun σ H Q ⟨Z, F, env, r, h⟩ => ⟨Z, F, env, r, ?_⟩
  simp only [evIt] at h
  cases h1 : ev C a' env with
  | ok x e1 =>
    rw [h1] at h
    intro F1 H1 v s1 r1 q1
    rw [Val.ff] at q1
    cases x with
    | int n =>
      simp only at h
      cases q1
      split at h
      · rename_i hz
        have := smallI_iff hz
        exact ⟨n, rfl, by omega, by omega, h F1 H1 _ s1 r1 walk_r⟩
      · exact h.elim
    | _ => exact h.elim
  | exc c e1 => rw [h1] at h; exact h
  | stuck => rw [h1] at h; exact h.elim
theorem pi_r2 (hg : Gl X "range") (hm : X.mg "range" = none) (ha : PE X a (EV X C W false a')) (hb : PE X b (EV X C W false b')) (hs : starEach [a, b] X.env = [(false, eval a X.env), (false, eval b X.env)]) (hs1 : starEach [b] X.env = [(false, eval b X.env)])
    (hs2 : starEach [a, b] X.env = (false, eval a X.env) :: starEach [b] X.env) (hs3 : starEach [b] X.env = (false, eval b X.env) :: starEach [] X.env) : PI X tg (.Call (.Name "range" p) [a, b] [] pos) (EI X C W false (.r2 a' b')) := by
  refine PI.imp (pi_range2 hg hm (pa_cons ha (pa_cons hb pa_nil hs3) hs2) hs hs1) fun σ H Q ⟨Z, F, env, r, h⟩ => ⟨Z, F, env, r, ?_⟩
  simp only [evIt] at h
  cases h1 : ev C a' env with
  | ok x e1 =>
    rw [h1] at h
    intro F1 H1 v s1 r1 q1
    rw [Val.ff] at q1
    cases x with
    | int n =>
      simp only at h
      cases q1
      refine ⟨Z, F1, e1, r1, ?_⟩
      cases h2 : ev C b' e1 with
      | ok y e2 =>
        rw [h2] at h
        intro F2 H2 u s2 r2 q2
        rw [Val.ff] at q2
        cases y with
        | int m =>
          simp only at h
          cases q2
          split at h
          · rename_i hz
            rw [Bool.and_eq_true] at hz
            have := smallI_iff hz.1
            have := smallI_iff hz.2
            exact ⟨n, m, rfl, ⟨by omega, by omega, by omega, by omega⟩, h F2 H2 _ (s1.trans s2) r2 walk_r⟩
          · exact h.elim
        | _ => exact h.elim
      | exc c e2 => rw [h2] at h; exact kX.mono (F := F) h s1
      | stuck => rw [h2] at h; exact h.elim
    | _ => exact h.elim
  | exc c e1 => rw [h1] at h; exact h
  | stuck => rw [h1] at h; exact h.elim
theorem pi_r3 (hg : Gl X "range") (hm : X.mg "range" = none) (ha : PE X a (EV X C W false a')) (hb : PE X b (EV X C W false b')) (hc : PE X c (EV X C W false c'))
    (hs : starEach [a, b, c] X.env = (false, eval a X.env) :: starEach [b, c] X.env) (hpl : (backTo pos (starEach [b, c] X.env)).any (·.1) = false)
    (hs2 : starEach [b, c] X.env = (false, eval b X.env) :: starEach [c] X.env) (hs3 : starEach [c] X.env = (false, eval c X.env) :: starEach [] X.env) : PI X tg (.Call (.Name "range" p) [a, b, c] [] pos) (EI X C W false (.r3 a' b' c')) := by
  refine PI.imp (pi_range3 hg hm (pa_cons ha (pa_cons hb (pa_cons hc pa_nil hs3) hs2) hs) hs hpl) fun σ H Q ⟨Z, F, env, r, h⟩ => ⟨Z, F, env, r, ?_⟩
  simp only [evIt] at h
  cases h1 : ev C a' env with
  | ok x e1 =>
    rw [h1] at h
    intro F1 H1 v s1 r1 q1
    rw [Val.ff] at q1
    cases x with
    | int n =>
      simp only at h
      cases q1
      refine ⟨Z, F1, e1, r1, ?_⟩
      cases h2 : ev C b' e1 with
      | ok y e2 =>
        rw [h2] at h
        intro F2 H2 u s2 r2 q2
        rw [Val.ff] at q2
        cases y with
        | int m =>
          simp only at h
          cases q2
          refine ⟨Z, F2, e2, r2, ?_⟩
          cases h3 : ev C c' e2 with
          | ok z e3 =>
            rw [h3] at h
            intro F3 H3 u3 s3 r3 q3
            rw [Val.ff] at q3
            cases z with
            | int l =>
              simp only at h
              cases q3
              split at h
              · rename_i hz
                rw [Bool.and_eq_true, Bool.and_eq_true] at hz
                have := smallI_iff hz.1.1
                have := smallI_iff hz.1.2
                have hl : l = -1 := of_decide_eq_true hz.2
                subst hl
                exact ⟨n, m, -1, _, rfl, RgC.neg (by omega) (by omega) (by omega) (by omega), h F3 H3 _ ((s1.trans s2).trans s3) r3 walk_c⟩
              · exact h.elim
            | _ => exact h.elim
          | exc c e2 => rw [h3] at h; exact kX.mono (F := F) h (s1.trans s2)
          | stuck => rw [h3] at h; exact h.elim
        | _ => exact h.elim
      | exc c e2 => rw [h2] at h; exact kX.mono (F := F) h s1
      | stuck => rw [h2] at h; exact h.elim
    | _ => exact h.elim
  | exc c e1 => rw [h1] at h; exact h
  | stuck => rw [h1] at h; exact h.elim
theorem pi_enum (hg : Gl X "enumerate") (hm : X.mg "enumerate" = none) (ha : PE X a (EV X C W false a')) (hs : starEach [a] X.env = [(false, eval a X.env)]) (hs2 : starEach [a] X.env = (false, eval a X.env) :: starEach [] X.env) {elts : List Expr} {kk : Nat} {tpos : Pos} :
    PI X (.Tuple elts kk tpos) (.Call (.Name "enumerate" p) [a] [] pos) (EI X C W true (.enum a')) := by
  refine PI.imp (pi_en hg hm (pa_cons ha pa_nil hs2) hs) fun σ H Q ⟨Z, F, env, r, h⟩ => ⟨Z, F, env, r, ?_⟩
  simp only [evIt] at h
  cases h1 : ev C a' env with
  | ok x e1 =>
    rw [h1] at h
    simp only at h
    intro F1 H1 v s1 r1 q1
    rw [Val.ff] at q1
    cases h2 : items? x with
    | none => rw [h2] at h; exact h.elim
    | some ds =>
      rw [h2] at h
      obtain ⟨k, ad, vs, rfl, sq, rr⟩ := q1.seq h2
      exact ⟨k, ad, vs, rfl, sq.sqB r1.fh, h F1 H1 _ s1 r1 (walk_en sq rr)⟩
  | exc c e1 => rw [h1] at h; exact h
  | stuck => rw [h1] at h; exact h.elim
theorem pi_zip (hg : Gl X "zip") (hm : X.mg "zip" = none) (ha : PE X a (EV X C W false a')) (hb : PE X b (EV X C W false b')) (hs : starEach [a, b] X.env = (false, eval a X.env) :: starEach [b] X.env) (hpl : (backTo pos (starEach [b] X.env)).any (·.1) = false)
    (hs3 : starEach [b] X.env = (false, eval b X.env) :: starEach [] X.env) {elts : List Expr} {kk : Nat} {tpos : Pos} : PI X (.Tuple elts kk tpos) (.Call (.Name "zip" p) [a, b] [] pos) (EI X C W true (.zip a' b')) := by
  refine PI.imp (pi_zp hg hm (pa_cons ha (pa_cons hb pa_nil hs3) hs) hs hpl) fun σ H Q ⟨Z, F, env, r, h⟩ => ⟨Z, F, env, r, ?_⟩
  simp only [evIt] at h
  cases h1 : ev C a' env with
  | ok x e1 =>
    rw [h1] at h
    simp only at h
    intro F1 H1 v s1 r1 q1
    rw [Val.ff] at q1
    refine ⟨Z, F1, e1, r1, ?_⟩
    cases h4 : ev C b' e1 with
    | ok y e2 =>
      rw [h4] at h
      simp only at h
      intro F2 H2 u s2 r2 q2
      rw [Val.ff] at q2
      cases h2 : items? x with
      | none => rw [h2] at h; exact h.elim
      | some ds =>
        cases h3 : items? y with
        | none => rw [h2, h3] at h; exact h.elim
        | some es =>
          rw [h2, h3] at h
          obtain ⟨k, ad, vs, rfl, sq, rr⟩ := (q1.mono s2).seq h2
          obtain ⟨l, ad2, vs2, rfl, sq2, rr2⟩ := q2.seq h3
          exact ⟨k, l, ad, ad2, vs, vs2, rfl, sq.sqB r2.fh, sq2.sqB r2.fh, h F2 H2 _ (s1.trans s2) r2 (walk_zp sq rr sq2 rr2)⟩
    | exc c e2 => rw [h4] at h; exact kX.mono (F := F) h s1
    | stuck => rw [h4] at h; exact h.elim
  | exc c e1 => rw [h1] at h; exact h
  | stuck => rw [h1] at h; exact h.elim
end
end BT
namespace BT
open PySem PySem.Spec PyProof.Rows L2
section
variable {K : PySem.W.Frag} {W : WX} {Z : Ent} {F F' H H' : Hp} {env : Env} {σ : L2.St}
theorem upd_get {H : Hp} {p b : Addr} {o x : HO} (hb : b ≠ p) (e : upd H p o b = some x) : H b = some x := by rwa [upd_ne hb] at e
theorem wipeE_len (e : Env) : ∀ vs : List Nat, (wipeE e vs).length = e.length
  | [] => rfl
  | v :: vs => by unfold wipeE; rw [List.length_set, wipeE_len e vs]
theorem wipeE_out {e : Env} {i : Nat} : ∀ {vs : List Nat}, i ∉ vs → (wipeE e vs)[i]? = e[i]?
  | [], _ => rfl
  | v :: vs, h => by
    unfold wipeE
    rw [List.getElem?_set_ne (fun z : v = i => h (by rw [z]; exact List.mem_cons_self ..)), wipeE_out fun m => h (List.mem_cons_of_mem _ m)]
theorem backE_len (e0 e : Env) : ∀ vs : List Nat, (backE e0 e vs).length = e.length
  | [] => rfl
  | v :: vs => by unfold backE; rw [List.length_set, backE_len e0 e vs]
theorem backE_out {e0 e : Env} {i : Nat} : ∀ {vs : List Nat}, i ∉ vs → (backE e0 e vs)[i]? = e[i]?
  | [], _ => rfl
  | v :: vs, h => by
    unfold backE
    rw [List.getElem?_set_ne (fun z : v = i => h (by rw [z]; exact List.mem_cons_self ..)), backE_out fun m => h (List.mem_cons_of_mem _ m)]
theorem backE_in {e0 e : Env} {i : Nat} {x : Slot} : ∀ {vs : List Nat}, i ∈ vs → (backE e0 e vs)[i]? = some x → x = slot e0 i
  | v :: vs, h, hx => by
    unfold backE at hx
    rcases set_at hx with ⟨rfl, z⟩ | ⟨n, hx⟩
    · exact z
    · rcases List.mem_cons.mp h with z | h
      · exact absurd z n
      · exact backE_in h hx
theorem R.wipes (r : R K Z F env σ H) : ∀ vs : List Nat, R K Z F (wipeE env vs) (wipe σ vs) H
  | [] => r
  | v :: vs => by unfold wipeE wipe; exact (R.wipes r vs).dropS v
theorem R.back {F1 H1 : Hp} {e1 e : Env} {vs : List Nat} (r1 : R K Z F1 e1 σ H1) (s : Same F1 F) (r : R K Z F (wipeE e vs) (wipe σ vs) H) (no : noOwn e1 vs = true) : R K Z F (backE e1 e vs) σ H := by
  have nov : ∀ i ∈ vs, ownD (slot e1 i) = none := fun i hi => by
    have := List.all_eq_true.mp no i hi
    simpa using this
  refine ⟨r.fh, r.f0, r.nw, r.g, r.gx, r.xe, ?_, fun i d e' => ?_, fun i x d e' e2 => ?_, fun i j x y d d2 a h1 h2 h3 h4 h5 h6 => ?_⟩
  · have := r.len
    rw [wipeE_len, wipe_length] at this
    rw [backE_len, this]
  · by_cases hi : i ∈ vs
    · have q := backE_in hi e'
      obtain ⟨v, q1, q2⟩ := r1.vl i d (slot_get q.symm fun z => nomatch z)
      exact ⟨v, q1, q2.mono s⟩
    · rw [backE_out hi] at e'
      obtain ⟨v, q1, q2⟩ := r.vl i d (by rw [wipeE_out hi]; exact e')
      exact ⟨v, (wipe_some q1).1, q2⟩
  · by_cases hi : i ∈ vs
    · have q := backE_in hi e'
      rw [q, nov i hi] at e2
      cases e2
    · rw [backE_out hi] at e'
      obtain ⟨a, q1, q2⟩ := r.ow i x d (by rw [wipeE_out hi]; exact e') e2
      exact ⟨a, (wipe_some q1).1, q2⟩
  · by_cases hi : i ∈ vs
    · rw [backE_in hi h1, nov i hi] at h3; cases h3
    · by_cases hj : j ∈ vs
      · rw [backE_in hj h2, nov j hj] at h4; cases h4
      · rw [backE_out hi] at h1
        rw [backE_out hj] at h2
        exact r.ap i j x y d d2 a (by rw [wipeE_out hi]; exact h1) (by rw [wipeE_out hj]; exact h2) h3 h4 (by rw [wipe_out hi]; exact h5) (by rw [wipe_out hj]; exact h6)
/-! ### the list that a comprehension fills, held beside the places -/
def Ent.plus (Z : Ent) (p : Addr) (o : HO) : Ent := ⟨Z.F, upd Z.H p o, Z.ex⟩
theorem R.plus (r : R K Z F env σ H) {p : Addr} {o : HO} (h : H p = none) : R K (Z.plus p o) F env σ (upd H p o) := by
  have hf := r.f0n h
  have zf : Z.F p = none := r.f0.free hf
  refine ⟨fun b x e => ?_, r.f0, fun b x e => ?_, fun b x e ne => ?_, fun b x e => ?_, fun a e => ?_, r.len, r.vl, fun i x d e e2 => ?_, r.ap⟩
  · rw [upd_ne (ne_of_none e hf)]; exact r.fh b x e
  · by_cases hb : b = p
    · subst hb; rw [hf]; exact zf.symm
    · exact r.nw b x (upd_get hb e)
  · by_cases hb : b = p
    · subst hb
      rw [upd_same]
      have : upd Z.H b o b = some x := e
      rwa [upd_same] at this
    · rw [upd_ne hb]; exact r.g b x (upd_get hb e) ne
  · by_cases hb : b = p
    · subst hb; exact ⟨o, upd_same⟩
    · rw [upd_ne hb]; exact r.gx b x (upd_get hb e)
  · by_cases hb : a = p
    · subst hb; exact ⟨o, upd_same⟩
    · obtain ⟨o', q⟩ := r.xe a e
      exact ⟨o', show upd Z.H p o a = some o' by rw [upd_ne hb]; exact q⟩
  · obtain ⟨a, q1, q2, q3, q4⟩ := r.ow i x d e e2
    obtain ⟨o', ho⟩ := q2.some
    have ne : a ≠ p := fun z => by rw [z, h] at ho; cases ho
    refine ⟨a, q1, q2.at fun o e => by rw [upd_ne ne]; exact e, q3, ?_⟩
    cases x with
    | own _ => exact show upd Z.H p o a = none by rw [upd_ne ne]; exact q4
    | inp _ => exact q4
    | _ => cases e2
section
variable {p : Addr} {o : HO} (r : R K (Z.plus p o) F env σ H) (zp : Z.H p = none) (zx : Z.ex ≠ some p)
include r zp zx
theorem R.pAt : H p = some o := r.g p o upd_same zx
theorem R.pF (zf : Z.F p = none) : F p = none := (r.nw p o upd_same).trans zf
theorem R.pNe {i : Nat} {x : Slot} {d : D} {a : Addr} (e : env[i]? = some x) (e2 : ownD x = some d) (h : σ[i]? = some (some (.ref a))) : a ≠ p := fun z => by
  obtain ⟨a', q1, q2, q3, q4⟩ := r.ow i x d e e2
  rw [h] at q1
  cases q1
  cases x with
  | own _ =>
    have q4 : upd Z.H p o a = none := q4
    rw [z, upd_same] at q4; cases q4
  | inp _ => exact zx (z ▸ q4)
  | _ => cases e2
theorem R.minus : R K Z F env σ H := by
  refine ⟨r.fh, r.f0, fun b x e => r.nw b x ?_, fun b x e ne => r.g b x ?_ ne, fun b x e => r.gx b x ?_, fun a e => ?_, r.len, r.vl, fun i x d e e2 => ?_, r.ap⟩
  · exact show upd Z.H p o b = some x by rw [upd_ne (ne_of_none e zp)]; exact e
  · exact show upd Z.H p o b = some x by rw [upd_ne (ne_of_none e zp)]; exact e
  · exact show upd Z.H p o b = some x by rw [upd_ne (ne_of_none e zp)]; exact e
  · obtain ⟨o', q⟩ := r.xe a e
    have ne : a ≠ p := fun z => zx (z ▸ e)
    have q : upd Z.H p o a = some o' := q
    rw [upd_ne ne] at q
    exact ⟨o', q⟩
  · obtain ⟨a, q1, q2, q3, q4⟩ := r.ow i x d e e2
    refine ⟨a, q1, q2, q3, ?_⟩
    have ne := r.pNe zp zx e e2 q1
    cases x with
    | own _ =>
      have q4 : upd Z.H p o a = none := q4
      rw [upd_ne ne] at q4; exact q4
    | inp _ => exact q4
    | _ => cases e2
theorem R.chg (zf : Z.F p = none) (o2 : HO) : R K (Z.plus p o2) F env σ (upd H p o2) := by
  have hf := r.pF zp zx zf
  have m := r.minus zp zx
  have hp := r.pAt zp zx
  refine ⟨fun b x e => ?_, m.f0, fun b x e => ?_, fun b x e ne => ?_, fun b x e => ?_, fun a e => ?_, m.len, m.vl, fun i x d e e2 => ?_, m.ap⟩
  · rw [upd_ne (ne_of_none e hf)]; exact m.fh b x e
  · by_cases hb : b = p
    · subst hb; rw [hf]; exact zf.symm
    · exact m.nw b x (upd_get hb e)
  · by_cases hb : b = p
    · subst hb
      rw [upd_same]
      have : upd Z.H b o2 b = some x := e
      rwa [upd_same] at this
    · rw [upd_ne hb]; exact m.g b x (upd_get hb e) ne
  · by_cases hb : b = p
    · subst hb; exact ⟨o2, upd_same⟩
    · rw [upd_ne hb]; exact m.gx b x (upd_get hb e)
  · obtain ⟨o', q⟩ := m.xe a e
    have ne : a ≠ p := fun z => zx (z ▸ e)
    exact ⟨o', show upd Z.H p o2 a = some o' by rw [upd_ne ne]; exact q⟩
  · obtain ⟨a, q1, q2, q3, q4⟩ := m.ow i x d e e2
    have ne := r.pNe zp zx e e2 q1
    refine ⟨a, q1, q2.at fun o e => by rw [upd_ne ne]; exact e, q3, ?_⟩
    cases x with
    | own _ => exact show upd Z.H p o2 a = none by rw [upd_ne ne]; exact q4
    | inp _ => exact q4
    | _ => cases e2
end
/-- a new list as a value -/
theorem fresh_val (fr : Bool) (r : R K Z F env σ H) {ds : List D} {p : Addr} (f : Fresh K Z F env σ H (.list ds) p) : ∃ F2, Same F F2 ∧ R K Z F2 env σ H ∧ Val K Z F2 env σ H fr (.list ds) (.ref p) := by
  cases fr with
  | true => exact ⟨F, Same.refl F, r, by unfold Val; rw [if_pos (show (true && isL (PyData.list ds)) = true from rfl)]; exact ⟨p, rfl, f⟩⟩
  | false =>
    obtain ⟨r2, s2, q⟩ := r.freeze f
    exact ⟨_, s2, r2, by rw [Val.ff]; exact q⟩
/-- a pair made by a walk -/
theorem R.junk (r : R K Z F env σ H) {p : Addr} {o : HO} (h : H p = none) : R K Z F env σ (upd H p o) :=
  r.after (Same.refl F) (fun b x e => by rw [upd_ne (ne_of_none e (r.f0n h))]; exact r.fh b x e) (same_upd h) fun _ _ _ => rfl
theorem item_in {x : D} {v : V} {t : Tg} {pr : Bool} (tp : pr = true → isTp t = true) (r : R K Z F env σ H)
    (y : (H' = H ∧ Rep K F x v) ∨ (pr = true ∧ ∃ T vs ds, v = .ref T ∧ H T = none ∧ H' = upd H T (.tup vs) ∧ x = .tuple ds ∧ Reps K F ds vs)) : R K Z F env σ H' ∧ (if isTp t = true then ItemV K F H' x v else Rep K F x v) := by
  rcases y with ⟨rfl, q⟩ | ⟨hp, T, vs, ds, rfl, hT, rfl, rfl, rr⟩
  · refine ⟨r, ?_⟩
    cases isTp t with
    | true => rw [if_pos rfl]; exact .inl q
    | false => rw [if_neg Bool.false_ne_true]; exact q
  · refine ⟨r.junk hT, ?_⟩
    rw [if_pos (tp hp)]
    exact .inr ⟨T, vs, ds, rfl, rfl, upd_same, rr⟩
end
theorem WalksD.mono {K : PySem.W.Frag} {F F' : Hp} {J : L2.It} {xs : List D} {pr : Bool} (w : WalksD K F J xs pr) (s : Same F F') : WalksD K F' J xs pr :=
  ⟨fun i x H h => w.go i x H (s.trans h), fun i H h => w.stop i H (s.trans h), fun i x v H H' h e y => (w.yld i x v H H' (s.trans h) e y).imp (fun ⟨a, b⟩ => ⟨a, b.mono s⟩) fun ⟨a, T, vs, ds, b, c, d, e, f⟩ => ⟨a, T, vs, ds, b, c, d, e, f.mono s⟩⟩
theorem lcGo_cons {f : Env → Res (Option D)} {t : Tg} {vs : List Nat} {x : D} {xs ys : List D} {e e' : Env} (h : lcGo f t vs (x :: xs) e = .ok ys e') :
    ∃ e1 r e2 zs, bindT t x (wipeE e vs) = some e1 ∧ f e1 = .ok r e2 ∧ lcGo f t vs xs e2 = .ok zs e' ∧ ys = (match r with | some y => y :: zs | none => zs) := by
  unfold lcGo at h
  split at h
  · cases h
  · rename_i e1 h1
    split at h
    · rename_i r e2 h2
      split at h
      · rename_i zs e3 h3
        cases h
        exact ⟨e1, r, e2, zs, h1, h2, h3, rfl⟩
      · cases h
    · cases h
theorem wipe_in {σ : L2.St} {i : Nat} : ∀ {vs : List Nat}, i ∈ vs → (wipe σ vs)[i]? = if i < σ.length then some none else none
  | v :: vs, h => by
    unfold wipe
    rw [List.getElem?_set, wipe_length]
    by_cases hv : v = i
    · subst hv; rw [if_pos rfl]
    · rw [if_neg hv]
      rcases List.mem_cons.mp h with z | h
      · exact absurd z.symm hv
      · exact wipe_in h
theorem wipe_two {σ : L2.St} {vs : List Nat} : wipe (wipe σ vs) vs = wipe σ vs := by
  refine List.ext_getElem? fun i => ?_
  by_cases hi : i ∈ vs
  · rw [wipe_in hi, wipe_in hi, wipe_length]
  · rw [wipe_out hi]
def W0 : WX := fun _ _ => False
section
variable {X : Cx} {C : Calls} {W : WX}
def kF (K : PySem.W.Frag) (Qn : Hp → Prop) (Qy : V → Hp → Prop) (Z : Ent) (F : Hp) (σ : L2.St) : Option D → Env → Prop := fun r e => ∀ F' H', Same F F' → R K Z F' e σ H' → match r with | none => Qn H' | some y => ∀ v, Rep K F' y v → Qy v H'
/-- what a turn's test and its element give -/
def TurnD (K : PySem.W.Frag) (f : Env → Res (Option D)) (tt : TT) (te : TE) : Prop := ∀ (Z : Ent) (F : Hp) (env : Env) (σ : L2.St) (H : Hp) (Qn : Hp → Prop) (Qy : V → Hp → Prop), R K Z F env σ H → Okr (f env) (kF K Qn Qy Z F σ) (fun _ _ => False) →
  tt σ H fun b H3 => if b = true then te σ H3 Qy else Qn H3
theorem turn_lc (x' : IE) : TurnD X.K (fun e => match ev C x' e with | .ok y e' => .ok (some y) e' | _ => .stuck) tYes (EV X C W0 false x') := by
  intro Z F env σ H Qn Qy r h
  show if true = true then EV X C W0 false x' σ H Qy else Qn H
  rw [if_pos rfl]
  refine ⟨Z, F, env, r, ?_⟩
  simp only at h
  cases h1 : ev C x' env with
  | ok y e1 =>
    rw [h1] at h
    intro F1 H1 v s1 r1 q1
    rw [Val.ff] at q1
    exact h F1 H1 s1 r1 v q1
  | exc c e1 => rw [h1] at h; exact h.elim
  | stuck => rw [h1] at h; exact h.elim
theorem turn_lcf (x' c' : IE) : TurnD X.K (fun e => match ev C c' e with
        | .ok (.bool true) e2 => match ev C x' e2 with | .ok y e' => .ok (some y) e' | _ => .stuck
        | .ok (.bool false) e2 => .ok none e2
        | _ => .stuck) (ET X C W0 c') (EV X C W0 false x') := by
  intro Z F env σ H Qn Qy r h
  refine ⟨Z, F, env, r, ?_⟩
  simp only at h
  cases h0 : ev C c' env with
  | ok b e0 =>
    rw [h0] at h
    cases b with
    | bool b =>
      cases b with
      | true =>
        simp only at h
        refine ⟨true, rfl, fun F1 H1 s1 r1 => ?_⟩
        show if true = true then EV X C W0 false x' σ H1 Qy else Qn H1
        rw [if_pos rfl]
        refine ⟨Z, F1, e0, r1, ?_⟩
        cases h1 : ev C x' e0 with
        | ok y e1 =>
          rw [h1] at h
          intro F2 H2 v s2 r2 q2
          rw [Val.ff] at q2
          exact h F2 H2 (s1.trans s2) r2 v q2
        | exc c e1 => rw [h1] at h; exact h.elim
        | stuck => rw [h1] at h; exact h.elim
      | false =>
        refine ⟨false, rfl, fun F1 H1 s1 r1 => ?_⟩
        show if false = true then EV X C W0 false x' σ H1 Qy else Qn H1
        rw [if_neg Bool.false_ne_true]
        exact h F1 H1 s1 r1
    | _ => exact h.elim
  | exc c e1 => rw [h0] at h; exact h.elim
  | stuck => rw [h0] at h; exact h.elim
theorem lc_read {it : It} {t : Tg} {vs : List Nat} {pr fr : Bool} {f : Env → Res (Option D)} {tt : TT} {te : TE} {Z : Ent} {F H : Hp} {env : Env} {σ : L2.St} {Q : VK} (r : R X.K Z F env σ H) (tn : TurnD X.K f tt te) (tp : pr = true → isTp t = true) (ti : tgIn t vs = true)
    (h : Okr (match evIt C it env with
      | .ok xs e1 => if noOwn e1 vs && isLong xs then lcEnd vs e1 (lcGo f t vs xs e1) else .stuck
      | .exc c e1 => .exc c e1
      | .stuck => .stuck) (kP X.K fr Q Z F σ) (kX X.K W Z F σ)) : tLc (EI X C W pr it) (gT X.K t) tt te vs σ H Q := by
  refine ⟨Z, F, env, r, ?_⟩
  cases h0 : evIt C it env with
  | ok xs e1 =>
    rw [h0] at h
    simp only at h
    intro F1 H1 J s1 r1 wk Dd hD
    split at h
    · rename_i hc
      rw [Bool.and_eq_true] at hc
      obtain ⟨no, lg⟩ := hc
      have lg : xs.length ≤ big := of_decide_eq_true lg
      have bl := big_le
      have zp := r1.z0 hD
      have zx := r1.xn hD
      have zf : Z.F Dd = none := r1.f0.free (r1.f0n hD)
      cases hg : lcGo f t vs xs e1 with
      | ok ys0 e0 =>
        rw [hg] at h
        refine ⟨fun i m H => i + m = xs.length ∧ ∃ F2 e acc ds ys e', Same F1 F2 ∧ R X.K (Z.plus Dd (.lst acc)) F2 (wipeE e vs) (wipe σ vs) H ∧ Reps X.K F2 ds acc ∧ acc.length ≤ i ∧ lcGo f t vs (xs.drop i) e = .ok ys e' ∧ kP X.K fr Q Z F1 σ (.list (ds ++ ys)) (backE e1 e' vs),
          ⟨xs.length, Nat.zero_add _, F1, e1, [], [], ys0, e0, Same.refl _, (r1.wipes vs).plus hD, .nil, Nat.zero_le _, hg, kP.mono (F := F) h s1⟩, ?_⟩
        rintro i m H2 ⟨hm, F2, e, acc, ds, ys, e', s2, r2, rr, hl, hgo, fin⟩
        by_cases hi : i < xs.length
        · have hx : xs[i]? = some xs[i] := List.getElem?_eq_getElem hi
          rw [List.drop_eq_getElem_cons hi] at hgo
          obtain ⟨e3, rs, e4, zs, b1, b2, b3, b4⟩ := lcGo_cons hgo
          refine .inr ⟨wk.go i _ H2 (s2.trans r2.fh) hx, fun H' => (i + 1) + (m - 1) = xs.length ∧ ∃ F2 e acc ds ys e', Same F1 F2 ∧ R X.K (Z.plus Dd (.lst acc)) F2 (wipeE e vs) (wipe σ vs) H' ∧ Reps X.K F2 ds acc ∧ acc.length ≤ i + 1 ∧ lcGo f t vs (xs.drop (i + 1)) e = .ok ys e' ∧ kP X.K fr Q Z F1 σ (.list (ds ++ ys)) (backE e1 e' vs),
            fun H' hN => ⟨m - 1, by omega, hN⟩, fun v H3 hy => ?_⟩
          have y := (wk.mono s2).yld i _ v H2 H3 r2.fh hx hy
          obtain ⟨r3, it3⟩ := item_in tp r2 y
          refine ⟨_, F2, _, _, e3, r3, it3, b1, fun σ2 r4 hw => ⟨(hw vs ti).trans wipe_two, ?_⟩⟩
          refine tn (Z.plus Dd (.lst acc)) F2 e3 σ2 H3 _ _ r4 ?_
          rw [b2]
          intro F5 H5 s5 r5
          have rw5 := r5.wipes vs
          rw [hw vs ti, wipe_two] at rw5
          cases rs with
          | none => exact ⟨by omega, F5, e4, acc, ds, zs, e', s2.trans s5, rw5, rr.mono s5, Nat.le_succ_of_le hl, b3, by rw [b4] at fin; exact fin⟩
          | some y =>
            intro v5 q5
            refine ⟨acc, r5.pAt zp zx, by omega, by omega, F5, e4, acc ++ [v5], ds ++ [y], zs, e', s2.trans s5, rw5.chg zp zx zf _, (rr.mono s5).snoc q5, by rw [List.length_append, List.length_singleton]; omega, b3, ?_⟩
            rw [b4] at fin
            rw [List.append_assoc]
            exact fin
        · have hi : i = xs.length := by omega
          refine .inl ⟨wk.stop i H2 (s2.trans r2.fh) hi.symm, ?_⟩
          rw [List.drop_eq_nil_of_le (by omega)] at hgo
          cases hgo
          rw [List.append_nil] at fin
          have m2 := r2.minus zp zx
          have bk := r1.back s2 m2 no
          have fs : Fresh X.K Z F2 (backE e1 e vs) σ H2 (.list ds) Dd := ⟨⟨acc, r2.pAt zp zx, by omega, rr⟩, r2.pF zp zx zf, zp, zx, fun j x d hj1 hj2 hj3 => by
            by_cases hj : j ∈ vs
            · have q := List.all_eq_true.mp no j hj
              rw [backE_in hj hj1] at hj2
              rw [hj2] at q
              cases q
            · rw [backE_out hj] at hj1
              exact r2.pNe zp zx (i := j) (by rw [wipeE_out hj]; exact hj1) hj2 (by rw [wipe_out hj]; exact hj3) rfl⟩
          obtain ⟨F6, s6, r6, q6⟩ := fresh_val fr bk fs
          exact fin F6 H2 _ (s2.trans s6) r6 q6
      | exc c e0 => rw [hg] at h; exact h.elim
      | stuck => rw [hg] at h; exact h.elim
    · exact h.elim
  | exc c e1 => rw [h0] at h; exact h
  | stuck => rw [h0] at h; exact h.elim
end
end BT
namespace BT
open PySem PySem.Spec PyProof.Rows L2
/-! ## statements -/
section
variable (K : PySem.W.Frag) (W : WX)
def kXs (Z : Ent) (F : Hp) : String → Env → Prop := fun c env => ∀ F' σ' H', Same F F' → R K Z F' env σ' H' → W c H'
def RV (Z : Ent) (F : Hp) (env : Env) (σ : L2.St) (H : Hp) (own : Bool) (d : D) (v : V) : Prop := if own = true then ∃ p, v = .ref p ∧ Fresh K Z F env σ H d p else Rep K F d v
def kS (D : Ends) (Z : Ent) (F : Hp) : Fl → Env → Prop := fun f env => match f with
  | .next => ∀ F' σ' H', Same F F' → R K Z F' env σ' H' → D.nx σ' H'
  | .ret own d => ∀ F' σ' H' v, Same F F' → R K Z F' env σ' H' → RV K Z F' env σ' H' own d v → D.rt v H'
def tS (m : Env → Res Fl) : TS := fun D σ H => ∃ Z F env, R K Z F env σ H ∧ Okr (m env) (kS K D Z F) (kXs K W Z F)
end
section
variable {K : PySem.W.Frag} {W : WX} {Z : Ent} {F F' H H' : Hp} {env : Env} {σ : L2.St}
theorem kXs.mono {c : String} {e : Env} (h : kXs K W Z F c e) (s : Same F F') : kXs K W Z F' c e := fun F2 σ2 H2 s2 r => h F2 σ2 H2 (s.trans s2) r
theorem kXs.at {c : String} {e : Env} (h : kXs K W Z F c e) : kX K W Z F σ c e := fun F2 H2 s2 r => h F2 σ H2 s2 r
theorem kS.mono {D : Ends} {f : Fl} {e : Env} (h : kS K D Z F f e) (s : Same F F') : kS K D Z F' f e := by
  cases f with
  | next => exact fun F2 σ2 H2 s2 r => h F2 σ2 H2 (s.trans s2) r
  | ret o d => exact fun F2 σ2 H2 v s2 r => h F2 σ2 H2 v (s.trans s2) r
theorem okS_mono {D : Ends} {r : Res Fl} (h : Okr r (kS K D Z F) (kXs K W Z F)) (s : Same F F') : Okr r (kS K D Z F') (kXs K W Z F') := by
  cases r with
  | ok f e => exact kS.mono (F := F) h s
  | exc c e => exact kXs.mono (F := F) h s
  | stuck => exact h
/-- a value goes into a place -/
theorem R.put (r : R K Z F env σ H) {i : Nat} {fr : Bool} {d : D} {v : V} (h : Val K Z F env σ H fr d v) : R K Z F (env.set i (mkSlot fr d)) (σ.set i (some v)) H := by
  by_cases hi : i < env.length
  · cases fr with
    | false => rw [Val.ff] at h; exact r.setV hi h
    | true =>
      cases d with
      | list ds =>
        unfold Val at h
        rw [if_pos (show (true && isL (PyData.list ds)) = true from rfl)] at h
        obtain ⟨a, rfl, f⟩ := h
        exact r.setO hi f
      | dict ds =>
        unfold Val at h
        rw [if_pos (show (true && isL (PyData.dict ds)) = true from rfl)] at h
        obtain ⟨a, rfl, f⟩ := h
        exact r.setO hi f
      | _ => exact r.setV hi h
  · rw [List.set_eq_of_length_le (by omega), List.set_eq_of_length_le (by rw [← r.len]; omega)]
    exact r
/-- a value held while another is made -/
theorem val_hold {fr : Bool} {d : D} {v : V} (h : Val K Z F env σ H fr d v) : (Rep K F d v ∧ (fr && isL d) = false) ∨ ∃ p o, fr = true ∧ isL d = true ∧ v = .ref p ∧ Fresh K Z F env σ H d p ∧ H p = some o := by
  unfold Val at h
  split at h
  · rename_i hc
    obtain ⟨p, rfl, f⟩ := h
    rw [Bool.and_eq_true] at hc
    obtain ⟨o, e⟩ := f.ow.some
    exact .inr ⟨p, o, hc.1, hc.2, rfl, f, e⟩
  · rename_i hc
    exact .inl ⟨h, by simpa using hc⟩
theorem Val.of_fresh {d : D} {p : Addr} (i : isL d = true) (f : Fresh K Z F env σ H d p) : Val K Z F env σ H true d (.ref p) := by
  unfold Val
  rw [i, if_pos (by rfl)]
  exact ⟨p, rfl, f⟩
theorem Val.of_rep {fr : Bool} {d : D} {v : V} (h : Rep K F d v) (n : (fr && isL d) = false) : Val K Z F env σ H fr d v := by
  unfold Val
  rw [n, if_neg Bool.false_ne_true]
  exact h
theorem Fresh.keep {d : D} {p : Addr} (f : Fresh K Z F env σ H d p) (r : R K Z F env σ H) {o : HO} (e : H p = some o) : R K (Z.plus p o) F env σ H := by
  have zf : Z.F p = none := r.f0.free f.nf
  refine ⟨r.fh, r.f0, fun b x e' => ?_, fun b x e' ne => ?_, fun b x e' => ?_, fun a e' => ?_, r.len, r.vl, fun i x d' e' e2 => ?_, r.ap⟩
  · by_cases hb : b = p
    · subst hb; rw [f.nf]; exact zf.symm
    · exact r.nw b x (upd_get hb e')
  · by_cases hb : b = p
    · subst hb
      have : upd Z.H b o b = some x := e'
      rw [upd_same] at this
      rw [e]; exact this
    · exact r.g b x (upd_get hb e') ne
  · by_cases hb : b = p
    · subst hb; exact ⟨o, e⟩
    · exact r.gx b x (upd_get hb e')
  · obtain ⟨o', q⟩ := r.xe a e'
    have ne : a ≠ p := fun z => f.nx (z ▸ e')
    exact ⟨o', show upd Z.H p o a = some o' by rw [upd_ne ne]; exact q⟩
  · obtain ⟨a, q1, q2, q3, q4⟩ := r.ow i x d' e' e2
    have ne : a ≠ p := fun z => f.ap i x d' e' e2 (z ▸ q1)
    refine ⟨a, q1, q2, q3, ?_⟩
    cases x with
    | own _ => exact show upd Z.H p o a = none by rw [upd_ne ne]; exact q4
    | inp _ => exact q4
    | _ => cases e2
end
section
variable {X : Cx} {C : Calls} {W : WX} {a b c e tg : Expr} {a' b' c' : IE} {pos p : Pos} {sts : List Stmt} {st : Stmt}
abbrev EX (X : Cx) (C : Calls) (W : WX) (s : IS) : TS := tS X.K W (exec C s)
abbrev EXs (X : Cx) (C : Calls) (W : WX) (s : ISs) : TS := tS X.K W (execs C s)
theorem pss_n : PSs X [] (EXs X C W .nil) := PSs.imp pss_nil fun D σ H ⟨Z, F, env, r, h⟩ => h F σ H (Same.refl F) r
theorem pss_c {s' : IS} {ss' : ISs} (h1 : PS X st (EX X C W s')) (h2 : PSs X sts (EXs X C W ss')) : PSs X (st :: sts) (EXs X C W (.cons s' ss')) := by
  refine PSs.imp (pss_cons h1 h2) fun D σ H ⟨Z, F, env, r, h⟩ => ⟨Z, F, env, r, ?_⟩
  simp only [execs] at h
  cases h1 : exec C s' env with
  | ok f e1 =>
    rw [h1] at h
    cases f with
    | next => exact fun F' σ' H' s2 r2 => ⟨Z, F', e1, r2, okS_mono h s2⟩
    | ret o d => exact h
  | exc c e1 => rw [h1] at h; exact h
  | stuck => rw [h1] at h; exact h.elim
/-- one expression, then what its value does -/
theorem one_s {fr : Bool} {En : Ends} {σ : L2.St} {H : Hp} {Z : Ent} {F : Hp} {env : Env} {R' : V → Hp → Prop} (r : R X.K Z F env σ H) (g : D → Env → Res Fl)
    (h : Okr (match ev C a' env with | .ok x e1 => g x e1 | .exc c e => .exc c e | .stuck => .stuck) (kS X.K En Z F) (kXs X.K W Z F))
    (fin : ∀ x e1 F1 H1 v, Okr (g x e1) (kS X.K En Z F1) (kXs X.K W Z F1) → R X.K Z F1 e1 σ H1 → Val X.K Z F1 e1 σ H1 fr x v → R' v H1) : EV X C W fr a' σ H R' := by
  refine ⟨Z, F, env, r, ?_⟩
  cases h1 : ev C a' env with
  | ok x e1 =>
    rw [h1] at h
    intro F1 H1 v s1 r1 q1
    exact fin x e1 F1 H1 v (okS_mono h s1) r1 q1
  | exc c e1 => rw [h1] at h; exact kXs.at h
  | stuck => rw [h1] at h; exact h.elim
theorem ps_as {i : Nat} {x : Str} {pos' : Pos} (h : ∀ te, PE X e te → PS X (.Assign [.Name x pos'] e pos) (tAsg te (gName i))) (he : PE X e (EV X C W (freshE a') a')) : PS X (.Assign [.Name x pos'] e pos) (EX X C W (.asg i a')) := by
  refine PS.imp (h _ he) fun D σ H ⟨Z, F, env, r, h⟩ => ?_
  simp only [exec] at h
  refine one_s r (fun d e1 => .ok .next (e1.set i (mkSlot (freshE a') d))) h fun x e1 F1 H1 v h r1 q1 => ?_
  exact h F1 _ H1 (Same.refl _) (r1.put q1)
theorem ps_asLc {i : Nat} {x : Str} {pos' : Pos} {te : TE} (h : PS X (.Assign [.Name x pos'] e pos) (tAsg te (gName i))) (he : ∀ σ H Q, EV X C W (freshE a') a' σ H Q → te σ H Q) : PS X (.Assign [.Name x pos'] e pos) (EX X C W (.asg i a')) := by
  refine PS.imp h fun D σ H ⟨Z, F, env, r, h⟩ => ?_
  simp only [exec] at h
  refine he _ _ _ (one_s r (fun d e1 => .ok .next (e1.set i (mkSlot (freshE a') d))) h fun x e1 F1 H1 v h r1 q1 => ?_)
  exact h F1 _ H1 (Same.refl _) (r1.put q1)
theorem ps_asT {t : Tg} (he : PE X e (EV X C W false a')) (hg : PG X tg (gT X.K t)) (hs : swapsWithSole [tg] e pos.line X.env = pure false) (hw : swappedStores [tg] e X.env = pure none)
    (h1 : (assignEach [tg] X.env).map (·.2) = [assign tg X.env]) : PS X (.Assign [tg] e pos) (EX X C W (.asgT t a')) := by
  refine PS.imp (ps_asg he hg hs hw h1) fun D σ H ⟨Z, F, env, r, h⟩ => ?_
  simp only [exec] at h
  refine one_s r (fun d e1 => match bindT t d e1 with | some e2 => .ok .next e2 | none => .stuck) h fun x e1 F1 H1 v h r1 q1 => ?_
  rw [Val.ff] at q1
  cases hb : bindT t x e1 with
  | none => rw [hb] at h; exact h.elim
  | some e2 => rw [hb] at h; exact gT_sub r1 q1 hb fun σ2 r2 _ => h F1 σ2 H1 (Same.refl _) r2
theorem ps_rt {fr : Bool} (he : PE X e (EV X C W false a')) : PS X (.Return (some e) pos) (EX X C W (.ret a')) := by
  refine PS.imp (ps_ret he) fun D σ H ⟨Z, F, env, r, h⟩ => ?_
  simp only [exec] at h
  refine one_s r (fun d e1 => .ok (.ret false d) e1) h fun x e1 F1 H1 v h r1 q1 => ?_
  rw [Val.ff] at q1
  exact h F1 σ H1 v (Same.refl _) r1 (by unfold RV; rw [if_neg Bool.false_ne_true]; exact q1)
theorem ps_rtF (he : PE X e (EV X C W (freshE a') a')) : PS X (.Return (some e) pos) (EX X C W (.retF a')) := by
  refine PS.imp (ps_ret he) fun D σ H ⟨Z, F, env, r, h⟩ => ?_
  simp only [exec] at h
  refine one_s r (fun d e1 => if freshE a' && (isTy d .list || isDct d) then .ok (.ret true d) e1 else .stuck) h fun x e1 F1 H1 v h r1 q1 => ?_
  split at h
  · rename_i hc
    rw [Bool.and_eq_true] at hc
    rw [hc.1] at q1
    rcases val_hold q1 with ⟨_, n⟩ | ⟨p, o, _, _, rfl, f, _⟩
    · cases x <;> first | exact absurd hc.2 Bool.false_ne_true | cases n
    · exact h F1 σ H1 _ (Same.refl _) r1 (by unfold RV; rw [if_pos rfl]; exact ⟨p, rfl, f⟩)
  · exact h.elim
theorem ps_rtO {i : Nat} (he : PE X e (tVar i)) : PS X (.Return (some e) pos) (EX X C W (.retO i)) := by
  refine PS.imp (ps_ret he) fun D σ H ⟨Z, F, env, r, h⟩ => ?_
  simp only [exec] at h
  split at h
  · rename_i d hs
    obtain ⟨a, e1, r1, f⟩ := r.give hs
    exact ⟨_, e1, h F σ H _ (Same.refl _) r1 (by unfold RV; rw [if_pos rfl]; exact ⟨a, rfl, f⟩)⟩
  · exact h.elim
theorem ps_ex (hs : swapsWith e none pos.line X.env = pure false) (he : PE X e (EV X C W false a')) : PS X (.Expr e pos) (EX X C W (.ex a')) := by
  refine PS.imp (ps_expr he hs) fun D σ H ⟨Z, F, env, r, h⟩ => ?_
  simp only [exec] at h
  exact one_s r (fun d e1 => .ok .next e1) h fun x e1 F1 H1 v h r1 q1 => h F1 σ H1 (Same.refl _) r1
theorem ps_ps : PS X (.Pass pos) (EX X C W .pass) := PS.imp ps_pass fun D σ H ⟨Z, F, env, r, h⟩ => h F σ H (Same.refl _) r
theorem ps_rs {cl : String} (hW : ∀ c H, ¬ W c H) : PS X st (EX X C W (.raise cl)) := PS.imp ps_never fun D σ H ⟨Z, F, env, r, h⟩ => hW _ _ (h F σ H (Same.refl _) r)
theorem ps_ap {o : Expr} {apos cpos : Pos} {i : Nat} (ho : PE X o (tVar i)) (hb : PE X b (EV X C W false b')) (hsw : swapsWith (.Call (.Attribute o "append" apos) [b] [] cpos) none pos.line X.env = pure false)
    (hbase : attributeBase o "append" X.env (eval o X.env) = eval o X.env)
    (hfew : ((backTo cpos (starEach [b] X.env)).all (fun x => !x.1) && (backToKw cpos (keywordEach [] X.env)).all (fun x => x.1.isSome)
      && decide ([b].length + ([] : List Keyword).length + (if ([] : List Keyword).isEmpty then 0 else 1) < 30)) = true)
    (hline : (apos.endLine == cpos.line) = true) (hs : starEach [b] X.env = (false, eval b X.env) :: starEach [] X.env) (hplain : (backTo cpos (starEach [] X.env)).any (·.1) = false) :
    PS X (.Expr (.Call (.Attribute o "append" apos) [b] [] cpos) pos) (EX X C W (.app i b')) := by
  have he : PE X (.Call (.Attribute o "append" apos) [b] [] cpos) (fun σ H Q => ∃ (Qh : Hp → Prop), (∀ v H', Qh H' → Q v H') ∧ ∃ Z F env, R X.K Z F env σ H ∧ Okr (exec C (.app i b') env) (fun f e => f = .next ∧ ∀ F' H', Same F F' → R X.K Z F' e σ H' → Qh H') (kX X.K W Z F σ)) :=
    ⟨fun pins s σ H Q I ⟨Qh, hq, Z, F, env, r, h⟩ => thn (pe_app ho hb hbase hfew hline hs hplain r h pins s I) fun v s' ⟨x, H', I', rx, q⟩ => ⟨x, H', I', rx, hq x H' q⟩⟩
  refine PS.imp (ps_expr he hsw) fun D σ H ⟨Z, F, env, r, h⟩ => ⟨fun H' => D.nx σ H', fun v H' q => q, Z, F, env, r, ?_⟩
  have nx : ∀ f e1, exec C (.app i b') env = .ok f e1 → f = .next := fun f e1 q => by
    simp only [exec] at q
    split at q
    · split at q
      · split at q
        · split at q
          · cases q; rfl
          · cases q
        · cases q
      · cases q
      · cases q
    · cases q
  cases h1 : exec C (.app i b') env with
  | ok f e1 =>
    rw [h1] at h
    have hf := nx f e1 h1
    subst hf
    exact ⟨rfl, fun F' H' s' r' => h F' σ H' s' r'⟩
  | exc c e1 => rw [h1] at h; exact kXs.at h
  | stuck => rw [h1] at h; exact h.elim
theorem ps_ifd {sa sb : ISs} {as bs : List Stmt} (hc : PT X c (ET X C W c')) (ha : PSs X as (EXs X C W sa)) (hb : PSs X bs (EXs X C W sb)) : PS X (.If c as bs pos) (EX X C W (.if_ c' sa sb)) := by
  refine PS.imp (ps_if hc ha hb) fun D σ H ⟨Z, F, env, r, h⟩ => ⟨Z, F, env, r, ?_⟩
  simp only [exec] at h
  cases h1 : ev C c' env with
  | ok x e1 =>
    rw [h1] at h
    cases x with
    | bool t =>
      refine ⟨t, rfl, fun F1 H1 s1 r1 => ?_⟩
      cases t with
      | true =>
        show if true = true then EXs X C W sa D σ H1 else EXs X C W sb D σ H1
        rw [if_pos rfl]
        exact ⟨Z, F1, e1, r1, okS_mono h s1⟩
      | false =>
        show if false = true then EXs X C W sa D σ H1 else EXs X C W sb D σ H1
        rw [if_neg Bool.false_ne_true]
        exact ⟨Z, F1, e1, r1, okS_mono h s1⟩
    | _ => exact h.elim
  | exc c e1 => rw [h1] at h; exact kXs.at h
  | stuck => rw [h1] at h; exact h.elim
theorem ps_fo {it : It} {t : Tg} {pr : Bool} {body : ISs} {iter : Expr} {bs : List Stmt} (hp : PassesOwn (model X.prog X.w) X.A X.env X.xe) (hc : X.calm = true) (tp : pr = true → isTp t = true) (hi : PI X tg iter (EI X C W pr it)) (hg : PG X tg (gT X.K t)) (hb : PSs X bs (EXs X C W body))
    (hs : ∀ x, foldedSetIterable iter X.env x = pure x) : PS X (.For tg iter bs [] pos) (EX X C W (.for_ t it body)) := by
  refine PS.imp (ps_for hp hc hi hg hb hs) fun D σ H ⟨Z, F, env, r, h⟩ => ⟨Z, F, env, r, ?_⟩
  simp only [exec] at h
  cases h1 : evIt C it env with
  | ok xs e1 =>
    rw [h1] at h
    intro F1 H1 J s1 r1 wk
    refine ⟨fun i m σ H => i + m = xs.length ∧ ∃ F2 e, Same F1 F2 ∧ R X.K Z F2 e σ H ∧ Okr (forGo t (execs C body) (xs.drop i) e) (kS X.K D Z F1) (kXs X.K W Z F1), ⟨xs.length, Nat.zero_add _, F1, e1, Same.refl _, r1, okS_mono h s1⟩, ?_⟩
    rintro i m σ2 H2 ⟨hm, F2, e, s2, r2, h2⟩
    by_cases hi : i < xs.length
    · have hx : xs[i]? = some xs[i] := List.getElem?_eq_getElem hi
      rw [List.drop_eq_getElem_cons hi, forGo] at h2
      refine .inr ⟨wk.go i _ H2 (s2.trans r2.fh) hx, fun σ' H' => (i + 1) + (m - 1) = xs.length ∧ ∃ F2 e, Same F1 F2 ∧ R X.K Z F2 e σ' H' ∧ Okr (forGo t (execs C body) (xs.drop (i + 1)) e) (kS X.K D Z F1) (kXs X.K W Z F1),
        fun σ' H' hN => ⟨m - 1, by omega, hN⟩, fun v H3 hy => ?_⟩
      have y := (wk.mono s2).yld i _ v H2 H3 r2.fh hx hy
      obtain ⟨r3, it3⟩ := item_in tp r2 y
      cases hb : bindT t xs[i] e with
      | none => rw [hb] at h2; exact h2.elim
      | some e3 =>
        rw [hb] at h2
        simp only at h2
        refine ⟨Z, F2, _, _, e3, r3, it3, hb, fun σ4 r4 _ => ⟨Z, F2, e3, r4, ?_⟩⟩
        cases h3 : execs C body e3 with
        | ok f e4 =>
          rw [h3] at h2
          cases f with
          | next => exact fun F' σ' H' s' r' => ⟨by omega, F', e4, s2.trans s', r', h2⟩
          | ret o d => exact kS.mono (F := F1) (D := D) (f := .ret o d) h2 s2
        | exc c e4 => rw [h3] at h2; exact kXs.mono (F := F1) h2 s2
        | stuck => rw [h3] at h2; exact h2.elim
    · have hi : i = xs.length := by omega
      rw [List.drop_eq_nil_of_le (by omega)] at h2
      exact .inl ⟨wk.stop i H2 (s2.trans r2.fh) hi.symm, h2 F2 σ2 H2 s2 r2⟩
  | exc c e1 => rw [h1] at h; exact kXs.at h
  | stuck => rw [h1] at h; exact h.elim
theorem ps_wh {body : ISs} {bs : List Stmt} (hp : PassesOwn (model X.prog X.w) X.A X.env X.xe) (hc : PT X c (ET X C W c')) (hb : PSs X bs (EXs X C W body)) : PS X (.While c bs [] pos) (EX X C W (.while_ c' body)) := by
  refine PS.imp (ps_while hp hc hb) fun D σ H ⟨Z, F, env, r, h⟩ => ?_
  simp only [exec] at h
  refine ⟨fun m σ H => ∃ F2 e, Same F F2 ∧ R X.K Z F2 e σ H ∧ Okr (whileGo (ev C c') (execs C body) m e) (kS X.K D Z F) (kXs X.K W Z F), ⟨fuel, F, env, Same.refl _, r, h⟩, ?_⟩
  rintro m σ2 H2 ⟨F2, e, s2, r2, h2⟩
  cases m with
  | zero => exact h2.elim
  | succ m =>
    rw [whileGo] at h2
    refine ⟨Z, F2, e, r2, ?_⟩
    cases h1 : ev C c' e with
    | ok x e1 =>
      rw [h1] at h2
      cases x with
      | bool t =>
        refine ⟨t, rfl, fun F3 H3 s3 r3 => ?_⟩
        cases t with
        | true =>
          simp only at h2
          show if true = true then ∃ N : L2.St → Hp → Prop, (∀ σ' H', N σ' H' → ∃ m', m' < m + 1 ∧ _) ∧ _ else _
          rw [if_pos rfl]
          refine ⟨fun σ' H' => ∃ F2 e, Same F F2 ∧ R X.K Z F2 e σ' H' ∧ Okr (whileGo (ev C c') (execs C body) m e) (kS X.K D Z F) (kXs X.K W Z F), fun σ' H' q => ⟨m, Nat.lt_succ_self _, q⟩, Z, F3, e1, r3, ?_⟩
          cases h3 : execs C body e1 with
          | ok f e4 =>
            rw [h3] at h2
            cases f with
            | next => exact fun F' σ' H' s' r' => ⟨F', e4, (s2.trans s3).trans s', r', h2⟩
            | ret o d => exact kS.mono (F := F) (D := D) (f := .ret o d) h2 (s2.trans s3)
          | exc c e4 => rw [h3] at h2; exact kXs.mono (F := F) h2 (s2.trans s3)
          | stuck => rw [h3] at h2; exact h2.elim
        | false =>
          show if false = true then _ else D.nx σ2 H3
          rw [if_neg Bool.false_ne_true]
          exact h2 F3 σ2 H3 (s2.trans s3) r3
      | _ => exact h2.elim
    | exc c e1 => rw [h1] at h2; exact kXs.at (kXs.mono (F := F) h2 s2)
    | stuck => rw [h1] at h2; exact h2.elim

/-! several places at once -/
theorem two_hold {fr fr2 : Bool} {En : Ends} {σ : L2.St} {H : Hp} {Z : Ent} {F : Hp} {env : Env} {R' : V → V → Hp → Prop} (r : R X.K Z F env σ H) (g : D → D → Env → Res Fl)
    (h : Okr (match ev C a' env with
      | .ok x e1 => match ev C b' e1 with
        | .ok y e2 => g x y e2
        | .exc c e => .exc c e
        | .stuck => .stuck
      | .exc c e => .exc c e
      | .stuck => .stuck) (kS X.K En Z F) (kXs X.K W Z F))
    (fin : ∀ x y e2 F2 H2 v u, Okr (g x y e2) (kS X.K En Z F2) (kXs X.K W Z F2) → R X.K Z F2 e2 σ H2 → Val X.K Z F2 e2 σ H2 fr x v → Val X.K Z F2 e2 σ H2 fr2 y u → (∀ p, v = .ref p → u = .ref p → (fr && isL x) = false ∨ (fr2 && isL y) = false) → R' v u H2) :
    EV X C W fr a' σ H fun v H1 => EV X C W fr2 b' σ H1 fun u H2 => R' v u H2 := by
  refine ⟨Z, F, env, r, ?_⟩
  cases h1 : ev C a' env with
  | ok x e1 =>
    rw [h1] at h
    simp only at h
    intro F1 H1 v s1 r1 q1
    rcases val_hold q1 with ⟨q, n⟩ | ⟨p, ob, rfl, il, rfl, f, hp⟩
    · refine ⟨Z, F1, e1, r1, ?_⟩
      cases h2 : ev C b' e1 with
      | ok y e2 =>
        rw [h2] at h
        intro F2 H2 u s2 r2 q2
        exact fin x y e2 F2 H2 v u (okS_mono h (s1.trans s2)) r2 (Val.of_rep (q.mono s2) n) q2 fun _ _ _ => .inl n
      | exc c e2 => rw [h2] at h; exact kXs.at (kXs.mono (F := F) h s1)
      | stuck => rw [h2] at h; exact h.elim
    · have r1' := f.keep r1 hp
      refine ⟨Z.plus p ob, F1, e1, r1', ?_⟩
      have zf : Z.F p = none := r1.f0.free f.nf
      cases h2 : ev C b' e1 with
      | ok y e2 =>
        rw [h2] at h
        intro F2 H2 u s2 r2 q2
        have m2 := r2.minus f.n0 f.nx
        have f2 : Fresh X.K Z F2 e2 σ H2 x p := ⟨(f.ow.mono s2).at fun o' e' => by rw [hp] at e'; cases e'; exact r2.pAt f.n0 f.nx, r2.pF f.n0 f.nx zf, f.n0, f.nx, fun i x d e e' e3 => r2.pNe f.n0 f.nx e e' e3 rfl⟩
        refine fin _ y e2 F2 H2 _ u (okS_mono h (s1.trans s2)) m2 (Val.of_fresh il f2) ?_ ?_
        · rcases val_hold q2 with ⟨q, n⟩ | ⟨p2, ob2, rfl, il2, rfl, g2, _⟩
          · exact Val.of_rep q n
          · have ne : p2 ≠ p := fun z => by
              have g0 : upd Z.H p ob p2 = none := g2.n0
              rw [z, upd_same] at g0; cases g0
            exact Val.of_fresh il2 ⟨g2.ow, g2.nf, by
              have g0 : upd Z.H p ob p2 = none := g2.n0
              rwa [upd_ne ne] at g0, g2.nx, g2.ap⟩
        · intro p' e3 e4
          cases e3
          rcases val_hold q2 with ⟨q, n⟩ | ⟨p2, ob2, rfl, il2, rfl, g2, _⟩
          · exact .inr n
          · cases e4
            have g0 : upd Z.H p ob p = none := g2.n0
            rw [upd_same] at g0; cases g0
      | exc c e2 =>
        rw [h2] at h
        exact fun F' H' s' r' => h F' σ H' (s1.trans s') (r'.minus f.n0 f.nx)
      | stuck => rw [h2] at h; exact h.elim
  | exc c e1 => rw [h1] at h; exact kXs.at h
  | stuck => rw [h1] at h; exact h.elim
/-- a value stays itself when another goes into a place -/
theorem val_put {K : PySem.W.Frag} {Z : Ent} {F H : Hp} {env : Env} {σ : L2.St} {fr fr2 : Bool} {x y : D} {v u : V} {i : Nat} (h : Val K Z F env σ H fr2 y u) (g : Val K Z F env σ H fr x v) (r : R K Z F env σ H)
    (ne : ∀ p, v = .ref p → u = .ref p → (fr && isL x) = false ∨ (fr2 && isL y) = false) : Val K Z F (env.set i (mkSlot fr x)) (σ.set i (some v)) H fr2 y u := by
  rcases val_hold h with ⟨q, n⟩ | ⟨p, ob, rfl, il, rfl, f, _⟩
  · exact Val.of_rep q n
  · refine Val.of_fresh il ⟨f.ow, f.nf, f.n0, f.nx, fun j z d e e2 e3 => ?_⟩
    rcases set_at e with ⟨rfl, z1⟩ | ⟨m, e⟩
    · subst z1
      by_cases hj : j < σ.length
      · rw [List.getElem?_set_self hj] at e3
        cases e3
        rcases ne p rfl rfl with n | n
        · cases fr <;> cases x <;> first | exact Bool.noConfusion (show true = false from n) | cases e2
        · rw [il] at n; cases n
      · rw [List.getElem?_eq_none (by rw [List.length_set]; omega)] at e3
        cases e3
    · rw [List.getElem?_set_ne (Ne.symm m)] at e3
      exact f.ap j z d e e2 e3
theorem put2 {K : PySem.W.Frag} {Z : Ent} {F H : Hp} {env : Env} {σ : L2.St} {fr fr2 : Bool} {x y : D} {v u : V} {i j : Nat} (r : R K Z F env σ H) (g : Val K Z F env σ H fr x v) (h : Val K Z F env σ H fr2 y u)
    (ne : ∀ p, v = .ref p → u = .ref p → (fr && isL x) = false ∨ (fr2 && isL y) = false) : R K Z F ((env.set i (mkSlot fr x)).set j (mkSlot fr2 y)) ((σ.set i (some v)).set j (some u)) H :=
  (r.put g).put (val_put h g r ne)
theorem as2_read {i j : Nat} {En : Ends} {σ : L2.St} {H : Hp} {Z : Ent} {F : Hp} {env : Env} (r : R X.K Z F env σ H) (h : Okr (exec C (.asg2 i j a' b') env) (kS X.K En Z F) (kXs X.K W Z F)) :
    EV X C W (freshE a') a' σ H fun v H1 => EV X C W (freshE b') b' σ H1 fun u H2 => ∀ H3, (H3 = H2 ∨ ∃ p o, H2 p = none ∧ H3 = upd H2 p o) → En.nx ((σ.set i (some v)).set j (some u)) H3 := by
  simp only [exec] at h
  refine two_hold r (fun x y e2 => .ok .next ((e2.set i (mkSlot (freshE a') x)).set j (mkSlot (freshE b') y))) h fun x y e2 F2 H2 v u h r2 q1 q2 ne H3 h3 => ?_
  have rr := put2 (i := i) (j := j) r2 q1 q2 ne
  rcases h3 with rfl | ⟨p, o, hp, rfl⟩
  · exact h F2 _ _ (Same.refl _) rr
  · exact h F2 _ _ (Same.refl _) (rr.junk hp)
theorem EV.out {fr : Bool} {σ : L2.St} {H : Hp} {Q Q' : VK} (h : EV X C W fr a' σ H Q) (q : ∀ v H', Q v H' → Q' v H') : EV X C W fr a' σ H Q' := by
  obtain ⟨Z, F, env, r, h⟩ := h
  refine ⟨Z, F, env, r, ?_⟩
  cases h1 : ev C a' env with
  | ok x e1 =>
    rw [h1] at h
    exact fun F' H' v s' r' q' => q v H' (h F' H' v s' r' q')
  | exc c e1 => rw [h1] at h; exact h
  | stuck => rw [h1] at h; exact h.elim
theorem ps_as2 {i j : Nat} {tga : Expr} {k2 : Nat} {pt2 : Pos} (h : ∀ ta : TA, PA X [a, b] ta → PS X (.Assign [tga] (.Tuple [a, b] k2 pt2) pos) (tPar i j ta)) (ha : PE X a (EV X C W (freshE a') a')) (hb : PE X b (EV X C W (freshE b') b'))
    (hs : starEach [a, b] X.env = (false, eval a X.env) :: starEach [b] X.env) (hs2 : starEach [b] X.env = (false, eval b X.env) :: starEach [] X.env) : PS X (.Assign [tga] (.Tuple [a, b] k2 pt2) pos) (EX X C W (.asg2 i j a' b')) :=
  PS.imp (h _ (pa_cons ha (pa_cons hb pa_nil hs2) hs)) fun D σ H ⟨Z, F, env, r, h⟩ => (as2_read r h).out fun v H1 q => q.out fun u H2 q => ⟨v, u, rfl, q H2 (.inl rfl)⟩
/-- .. through a tuple -/
theorem ps_as2t {i j : Nat} {n1 n2 : Expr} {kt k2 : Nat} {pt pt2 : Pos} (hc : X.calm = true) (hs0 : swapsWithSole [.Tuple [n1, n2] kt pt] (.Tuple [a, b] k2 pt2) pos.line X.env = pure false) (hw : swappedStores [.Tuple [n1, n2] kt pt] (.Tuple [a, b] k2 pt2) X.env = pure none)
    (h1 : (assignEach [.Tuple [n1, n2] kt pt] X.env).map (·.2) = [assign (.Tuple [n1, n2] kt pt) X.env]) (g1 : PG X n1 (gName i)) (g2 : PG X n2 (gName j)) (s1 : (assignEach [n1, n2] X.env).map (·.2) = assign n1 X.env :: (assignEach [n2] X.env).map (·.2))
    (s2 : (assignEach [n2] X.env).map (·.2) = assign n2 X.env :: (assignEach [] X.env).map (·.2)) (hn : (assignEach [n1, n2] X.env).length = 2) (hst : (assignEach [n1, n2] X.env).findIdx? (·.1) = none)
    (ha : PE X a (EV X C W (freshE a') a')) (hb : PE X b (EV X C W (freshE b') b'))
    (hs : starEach [a, b] X.env = (false, eval a X.env) :: starEach [b] X.env) (hs2 : starEach [b] X.env = (false, eval b X.env) :: starEach [] X.env) : PS X (.Assign [.Tuple [n1, n2] kt pt] (.Tuple [a, b] k2 pt2) pos) (EX X C W (.asg2 i j a' b')) := by
  refine PS.imp (ps_asg (pe_tup (pa_cons ha (pa_cons hb pa_nil hs2) hs)) (pg_tup hc (pgs_cons g1 (pgs_cons g2 pgs_nil s2) s1) hn hst) hs0 hw h1) fun D σ H ⟨Z, F, env, r, h⟩ => ?_
  refine (as2_read r h).out fun v H1 q => q.out fun u H2 q => ⟨by show 2 ≤ sizeLine; decide, fun p hp => ⟨p, [v, u], rfl, .inl (.inl upd_same), rfl, v, [u], rfl, u, [], rfl, rfl, q _ (.inr ⟨p, _, hp, rfl⟩)⟩⟩
theorem as3_read {i j l : Nat} {En : Ends} {σ : L2.St} {H : Hp} {Z : Ent} {F : Hp} {env : Env} (r : R X.K Z F env σ H) (h : Okr (exec C (.asg3 i j l a' b' c') env) (kS X.K En Z F) (kXs X.K W Z F)) :
    EV X C W (freshE a') a' σ H fun v H1 => EV X C W false b' σ H1 fun u H2 => EV X C W (freshE c') c' σ H2 fun w H3 => ∀ H4, (H4 = H3 ∨ ∃ p o, H3 p = none ∧ H4 = upd H3 p o) → En.nx (((σ.set i (some v)).set j (some u)).set l (some w)) H4 := by
  simp only [exec] at h
  generalize freshE a' = fr at h ⊢
  generalize freshE c' = fr2 at h ⊢
  have fin : ∀ (x y z : D) (e3 : Env) (F3 H3 : Hp) (v u w : V), Okr (.ok .next (((e3.set i (mkSlot (fr) x)).set j (.val y)).set l (mkSlot (fr2) z))) (kS X.K En Z F3) (kXs X.K W Z F3) → R X.K Z F3 e3 σ H3 → Val X.K Z F3 e3 σ H3 (fr) x v → Rep X.K F3 y u → Val X.K Z F3 e3 σ H3 (fr2) z w →
      (∀ p, v = .ref p → w = .ref p → (fr && isL x) = false ∨ (fr2 && isL z) = false) → ∀ H4, (H4 = H3 ∨ ∃ p o, H3 p = none ∧ H4 = upd H3 p o) → En.nx (((σ.set i (some v)).set j (some u)).set l (some w)) H4 := by
    intro x y z e3 F3 H3 v u w h r3 q1 q2 q3 ne H4 h4
    have q2' : Val X.K Z F3 e3 σ H3 false y u := by rw [Val.ff]; exact q2
    have ra := r3.put (i := i) q1
    have qa : Val X.K Z F3 (e3.set i (mkSlot (fr) x)) (σ.set i (some v)) H3 false y u := by rw [Val.ff]; exact q2
    have q3a := val_put (i := i) q3 q1 r3 ne
    have rb := ra.put (i := j) qa
    have q3b := val_put (i := j) q3a qa ra fun _ _ _ => .inl rfl
    have rc := rb.put (i := l) q3b
    rcases h4 with rfl | ⟨p, o, hp, rfl⟩
    · exact h F3 _ _ (Same.refl _) rc
    · exact h F3 _ _ (Same.refl _) (rc.junk hp)
  refine ⟨Z, F, env, r, ?_⟩
  cases h1 : ev C a' env with
  | ok x e1 =>
    rw [h1] at h
    simp only at h
    intro F1 H1 v s1 r1 q1
    rcases val_hold q1 with ⟨q, n⟩ | ⟨p, ob, rfl, il, rfl, f, hp⟩
    · refine ⟨Z, F1, e1, r1, ?_⟩
      cases h2 : ev C b' e1 with
      | ok y e2 =>
        rw [h2] at h
        simp only at h
        intro F2 H2 u s2 r2 q2
        rw [Val.ff] at q2
        refine ⟨Z, F2, e2, r2, ?_⟩
        cases h3 : ev C c' e2 with
        | ok z e3 =>
          rw [h3] at h
          intro F3 H3 w s3 r3 q3
          exact fin x y z e3 F3 H3 v u w (okS_mono h ((s1.trans s2).trans s3)) r3 (Val.of_rep (q.mono (s2.trans s3)) n) (q2.mono s3) q3 fun _ _ _ => .inl n
        | exc c e3 => rw [h3] at h; exact kXs.at (kXs.mono (F := F) h (s1.trans s2))
        | stuck => rw [h3] at h; exact h.elim
      | exc c e2 => rw [h2] at h; exact kXs.at (kXs.mono (F := F) h s1)
      | stuck => rw [h2] at h; exact h.elim
    · have r1' := f.keep r1 hp
      refine ⟨Z.plus p ob, F1, e1, r1', ?_⟩
      have zf : Z.F p = none := r1.f0.free f.nf
      cases h2 : ev C b' e1 with
      | ok y e2 =>
        rw [h2] at h
        simp only at h
        intro F2 H2 u s2 r2 q2
        rw [Val.ff] at q2
        refine ⟨Z.plus p ob, F2, e2, r2, ?_⟩
        cases h3 : ev C c' e2 with
        | ok z e3 =>
          rw [h3] at h
          intro F3 H3 w s3 r3 q3
          have m2 := r3.minus f.n0 f.nx
          have f2 : Fresh X.K Z F3 e3 σ H3 x p := ⟨(f.ow.mono (s2.trans s3)).at fun o' e' => by rw [hp] at e'; cases e'; exact r3.pAt f.n0 f.nx, r3.pF f.n0 f.nx zf, f.n0, f.nx, fun i x d e e' e3 => r3.pNe f.n0 f.nx e e' e3 rfl⟩
          refine fin x y z e3 F3 H3 _ u w (okS_mono h ((s1.trans s2).trans s3)) m2 (Val.of_fresh il f2) (q2.mono s3) ?_ ?_
          · rcases val_hold q3 with ⟨q, n⟩ | ⟨p2, ob2, rfl, il2, rfl, g2, _⟩
            · exact Val.of_rep q n
            · have ne : p2 ≠ p := fun z => by
                have g0 : upd Z.H p ob p2 = none := g2.n0
                rw [z, upd_same] at g0; cases g0
              exact Val.of_fresh il2 ⟨g2.ow, g2.nf, by
                have g0 : upd Z.H p ob p2 = none := g2.n0
                rwa [upd_ne ne] at g0, g2.nx, g2.ap⟩
          · intro p' e3 e4
            cases e3
            rcases val_hold q3 with ⟨q, n⟩ | ⟨p2, ob2, rfl, il2, rfl, g2, _⟩
            · exact .inr n
            · cases e4
              have g0 : upd Z.H p ob p = none := g2.n0
              rw [upd_same] at g0; cases g0
        | exc c e3 =>
          rw [h3] at h
          exact fun F' H' s' r' => h F' σ H' ((s1.trans s2).trans s') (r'.minus f.n0 f.nx)
        | stuck => rw [h3] at h; exact h.elim
      | exc c e2 =>
        rw [h2] at h
        exact fun F' H' s' r' => h F' σ H' (s1.trans s') (r'.minus f.n0 f.nx)
      | stuck => rw [h2] at h; exact h.elim
  | exc c e1 => rw [h1] at h; exact kXs.at h
  | stuck => rw [h1] at h; exact h.elim
theorem ps_as3 {i j l : Nat} {tga : Expr} {k2 : Nat} {pt2 : Pos} (h : ∀ ta : TA, PA X [a, b, c] ta → PS X (.Assign [tga] (.Tuple [a, b, c] k2 pt2) pos) (tPar3 i j l ta)) (ha : PE X a (EV X C W (freshE a') a')) (hb : PE X b (EV X C W false b')) (hcc : PE X c (EV X C W (freshE c') c'))
    (hs : starEach [a, b, c] X.env = (false, eval a X.env) :: starEach [b, c] X.env) (hs2 : starEach [b, c] X.env = (false, eval b X.env) :: starEach [c] X.env) (hs3 : starEach [c] X.env = (false, eval c X.env) :: starEach [] X.env) : PS X (.Assign [tga] (.Tuple [a, b, c] k2 pt2) pos) (EX X C W (.asg3 i j l a' b' c')) :=
  PS.imp (h _ (pa_cons ha (pa_cons hb (pa_cons hcc pa_nil hs3) hs2) hs)) fun D σ H ⟨Z, F, env, r, h⟩ => (as3_read r h).out fun v H1 q => q.out fun u H2 q => q.out fun w H3 q => ⟨v, u, w, rfl, q H3 (.inl rfl)⟩
theorem ps_as3t {i j l : Nat} {n1 n2 n3 : Expr} {kt k2 : Nat} {pt pt2 : Pos} (hc : X.calm = true) (hs0 : swapsWithSole [.Tuple [n1, n2, n3] kt pt] (.Tuple [a, b, c] k2 pt2) pos.line X.env = pure false) (hw : swappedStores [.Tuple [n1, n2, n3] kt pt] (.Tuple [a, b, c] k2 pt2) X.env = pure none)
    (h1 : (assignEach [.Tuple [n1, n2, n3] kt pt] X.env).map (·.2) = [assign (.Tuple [n1, n2, n3] kt pt) X.env]) (g1 : PG X n1 (gName i)) (g2 : PG X n2 (gName j)) (g3 : PG X n3 (gName l)) (s1 : (assignEach [n1, n2, n3] X.env).map (·.2) = assign n1 X.env :: (assignEach [n2, n3] X.env).map (·.2))
    (s2 : (assignEach [n2, n3] X.env).map (·.2) = assign n2 X.env :: (assignEach [n3] X.env).map (·.2)) (s3 : (assignEach [n3] X.env).map (·.2) = assign n3 X.env :: (assignEach [] X.env).map (·.2))
    (hn : (assignEach [n1, n2, n3] X.env).length = 3) (hst : (assignEach [n1, n2, n3] X.env).findIdx? (·.1) = none)
    (ha : PE X a (EV X C W (freshE a') a')) (hb : PE X b (EV X C W false b')) (hcc : PE X c (EV X C W (freshE c') c'))
    (hs : starEach [a, b, c] X.env = (false, eval a X.env) :: starEach [b, c] X.env) (hs2 : starEach [b, c] X.env = (false, eval b X.env) :: starEach [c] X.env) (hs3 : starEach [c] X.env = (false, eval c X.env) :: starEach [] X.env) :
    PS X (.Assign [.Tuple [n1, n2, n3] kt pt] (.Tuple [a, b, c] k2 pt2) pos) (EX X C W (.asg3 i j l a' b' c')) := by
  refine PS.imp (ps_asg (pe_tup (pa_cons ha (pa_cons hb (pa_cons hcc pa_nil hs3) hs2) hs)) (pg_tup hc (pgs_cons g1 (pgs_cons g2 (pgs_cons g3 pgs_nil s3) s2) s1) hn hst) hs0 hw h1) fun D σ H ⟨Z, F, env, r, h⟩ => ?_
  refine (as3_read r h).out fun v H1 q => q.out fun u H2 q => q.out fun w H3 q => ⟨by show 3 ≤ sizeLine; decide, fun p hp => ⟨p, [v, u, w], rfl, .inl (.inl upd_same), rfl, v, [u, w], rfl, u, [w], rfl, w, [], rfl, rfl, q _ (.inr ⟨p, _, hp, rfl⟩)⟩⟩
/-! a place's list: an item; a place's int or list: op= -/
theorem ixN_at {xs : List D} {j : Int} {d : D} (h : atD xs j = some d) : ixN xs.length j = some (if 0 ≤ j then j.toNat else (j + xs.length).toNat) := by
  unfold atD at h
  unfold ixN
  split at h
  · rename_i h0
    split at h
    · rename_i h1; rw [if_pos h0, if_pos h1, if_pos h0]
    · cases h
  · rename_i h0
    split at h
    · rename_i h1; rw [if_neg h0, if_pos h1, if_neg h0]
    · cases h
def rSetX (K : PySem.W.Frag) : V → V → V → Hp → (Hp → Prop) → Prop := fun o i v H Q => rSetL o i v H Q ∨ ∃ F kvs a k d, o = .ref a ∧ Same F H ∧ F a = none ∧ Own K F H (.dict kvs) a ∧ Rep K F k i ∧ Rep K F d v ∧ kOk kvs k = true ∧ kvs.length < big ∧
  ∀ ob, Own K F (upd H a ob) (.dict (dstore kvs k d)) a → Q (upd H a ob)
theorem set_any (hu : X.A.units + 64 < cLine) : PSet X (rSetX X.K) := by
  intro pins s σ H o i v ov iv u Q I ro ri rv h
  rcases h with h | ⟨F, kvs, a, k, d, rfl, sf, nf, ow, rk, rd, ok, hl, q⟩
  · exact set_list pins s σ H o i v ov iv u Q I ro ri rv h
  · cases ro
    exact dct_setItem hu I sf ow nf rk ri rd rv ok hl fun ob s' ow' I' => ⟨_, I', q _ ow'⟩
theorem ps_si (hu : X.A.units + 64 < cLine) {o ix : Expr} {spos : Pos} {i : Nat} (ho : PE X o (tVar i)) (hi : PE X ix (EV X C W false b')) (he : PE X e (EV X C W false a')) (hs : swapsWithSole [.Subscript o ix spos] e pos.line X.env = pure false) (hw : swappedStores [.Subscript o ix spos] e X.env = pure none)
    (h1 : (assignEach [.Subscript o ix spos] X.env).map (·.2) = [assign (.Subscript o ix spos) X.env])
    (hq : ∀ v, assign (.Subscript o ix spos) X.env v = (do
      let ov ← holding [v] (eval o X.env)
      let iv ← holding [v, ov] (eval ix X.env)
      standAt spos
      holding [v, ov, iv] (setItem ov iv v)
      release [v, ov, iv] [])) : PS X (.Assign [.Subscript o ix spos] e pos) (EX X C W (.setI i b' a')) := by
  refine PS.imp (ps_asg he (pg_sub ho hi (set_any hu) hq) hs hw h1) fun D σ H ⟨Z, F, env, r, h⟩ => ?_
  simp only [exec] at h
  show EV X C W false a' σ H fun v H1 => ∃ w, σ[i]? = some (some w) ∧ EV X C W false b' σ H1 fun y H2 => rSetX X.K w y v H2 fun H3 => D.nx σ H3
  refine ⟨Z, F, env, r, ?_⟩
  cases h0 : ev C a' env with
  | ok x e1 =>
    rw [h0] at h
    simp only at h
    intro F1 H1 v s1 r1 q1
    rw [Val.ff] at q1
    split at h
    · rename_i hi
      obtain ⟨a, ea⟩ := own_ref r1 hi
      refine ⟨.ref a, ea, Z, F1, e1, r1, ?_⟩
      cases h2 : ev C b' e1 with
      | ok y e2 =>
        rw [h2] at h
        simp only at h
        intro F2 H2 u s2 r2 q2
        rw [Val.ff] at q2
        split at h
        · rename_i xs j hx
          split at h
          · rename_i y0 hy
            obtain ⟨a', vs, e3, e4, z, rr⟩ := own_list r2 hx
            rw [ea] at e3
            cases e3
            cases q2
            refine .inl ⟨a, vs, j, _, rfl, rfl, e4, by rw [rr.length]; exact ixN_at hy, ?_⟩
            exact h F2 σ _ (s1.trans s2) (own_put r2 hx ea (by rw [List.length_set]; exact z) (Reps.set (q1.mono s2) _ rr))
          · exact h.elim
        · rename_i kvs hx
          split at h
          · rename_i ok
            rw [Bool.and_eq_true] at ok
            obtain ⟨a', e3, ow, nf, _⟩ := r2.ow i _ _ (slot_ownD hx) hx
            rw [ea] at e3
            cases e3
            exact .inr ⟨F2, kvs, a, _, _, rfl, r2.fh, nf, ow, q2, q1.mono s2, ok.1, of_decide_eq_true ok.2, fun ob ow' => h F2 σ _ (s1.trans s2) (r2.mut hx ea ow')⟩
          · exact h.elim
        · exact h.elim
      | exc c e2 => rw [h2] at h; exact kXs.at (kXs.mono (F := F) h s1)
      | stuck => rw [h2] at h; exact h.elim
    · exact h.elim
  | exc c e1 => rw [h0] at h; exact kXs.at h
  | stuck => rw [h0] at h; exact h.elim
/-! op= -/
theorem iadd_many (l : Addr) (items : Array Value) (n : Nat) (b : Addr) (T : String) (hT : T = "list" ∨ T = "tuple") (items2 : Array Value) (n2 : Nat) (dd : Option Addr) (sl : Array (Option Value)) (hs0 : ¬(!items.isEmpty && Builtin.List.listTooLong (items.size + items2.size)) = true) (hs1 : items.size ≤ sizeLine) (hs2 : (items ++ items2).size ≤ sizeLine + 1) :
    Meets (Builtin.«list.__iadd__» ⟨[.ref l, .ref b], []⟩) (fun _ R s => s.heap.get? l = some { cls := .type "list", dict := none, data := .seq items n, slots := #[] } ∧ s.heap.get? b = some { cls := .type T, dict := dd, data := .seq items2 n2, slots := sl } ∧
      R (.ok (.ret (Value.ref l))) { s with heap := s.heap.update l (Obj.mapSeq fun x => x ++ items2), toks := s.toks }) := by
  rcases hT with rfl | rfl
  · refine .of_wp fun prog w A R s h => ?_
    obtain ⟨hp, g, d, tk, os⟩ := s
    obtain ⟨hl, hb, h⟩ := h
    have q1 := PySem.AutoSeq1.idx_int
    have q2 := PySem.AutoSeq1.sub_tuple_tuple
    have q3 := PySem.AutoSeq1.sub_list_list
    have q4 := PySem.AutoSeq1.sub_tuple_list
    have q5 := PySem.AutoSeq1.sub_list_tuple
    wp_walk using (wpAny_updateSeq hl rfl (hz := hs1) (_hz' := hs2)), PySem.AutoSeq1.wpAny_loadPart' hl, PySem.AutoSeq1.wpAny_loadPart' hb
    exact ⟨_, rfl, h⟩
  · refine .of_wp fun prog w A R s h => ?_
    obtain ⟨hp, g, d, tk, os⟩ := s
    obtain ⟨hl, hb, h⟩ := h
    have q1 := PySem.AutoSeq1.idx_int
    have q2 := PySem.AutoSeq1.sub_tuple_tuple
    have q3 := PySem.AutoSeq1.sub_list_list
    have q4 := PySem.AutoSeq1.sub_tuple_list
    have q5 := PySem.AutoSeq1.sub_list_tuple
    wp_walk using (wpAny_updateSeq hl rfl (hz := hs1) (_hz' := hs2)), PySem.AutoSeq1.wpAny_loadPart' hl, PySem.AutoSeq1.wpAny_loadPart' hb
    exact ⟨_, rfl, h⟩
theorem noOp1 {M : Model} {A : Around} {E : Value → Shared → Prop} {s : Shared} {a b : Value} {T U nm : String} {Q : Option Value → Shared → Prop} (ha : s.TypeIs a T) (hb : s.TypeIs b U) (f1 : fillsNumberSlot (.type T) nm = pure false) (f2 : fillsNumberSlot (.type U) nm = pure false) (h : Q none s) :
    wpAny M A (binaryOp1 nm a b) Q E s := by
  simp only [binaryOp1]
  refine wpAny_bind (wpAny_typeOf ha (wpAny_bind (wpAny_typeOf hb (wpAny_bind (wpAny_of_eq f1 ?_)))))
  by_cases hTU : (Value.type T == Value.type U) = true
  · simp only [hTU, if_true, pure_bind, Bool.false_and, Bool.false_eq_true, if_false]
    exact wpAny_pure h
  · simp only [hTU, Bool.false_eq_true, if_false]
    refine wpAny_bind (wpAny_of_eq f2 ?_)
    simp only [pure_bind, Bool.false_and, Bool.false_eq_true, if_false]
    exact wpAny_pure h
theorem iadd_way {M : Model} {A : Around} {E : Value → Shared → Prop} {s : Shared} {a b : Value} {U : String} {Q : Value → Shared → Prop} (ha : s.TypeIs a "list") (hb : s.TypeIs b U) (f2 : fillsNumberSlot (.type U) "add" = pure false) (hc : wpAny M A (call (.builtin "list.__iadd__") [a, b]) Q E s) : wpAny M A (inplaceOp .Add a b) Q E s := by
  have look : typeLookup (.type "list") (dunderI "add") = pure (some (.builtin "list.__iadd__")) := PySem.F.slot_list_iadd.lookup
  have isq : isSeqSlot (some (.builtin "list.__iadd__")) = true := by decide +kernel
  have fill : fillsInplaceSlot (.type "list") "add" (Operator.Add == .Add) = pure false := by
    unfold fillsInplaceSlot
    show (typeLookup (.type "list") (dunderI "add") >>= fun fi => pure (fi.isSome && !isSeqSlot fi)) = pure false
    rw [look]
    show (pure (true && !isSeqSlot (some (.builtin "list.__iadd__"))) : Sem Bool) = pure false
    rw [isq] <;> rfl
  unfold inplaceOp
  refine wpAny_holding (wpAny_bind (wpAny_typeOf ha (wpAny_bind (wpAny_of_eq fill ?_))))
  show wpAny M A (if false = true then _ else _) Q E s
  rw [if_neg Bool.false_ne_true]
  exact wpAny_bind (noOp1 (nm := "add") ha hb noFill_list_add f2 (wpAny_bind (wpAny_of_eq (PySem.seqSlot_of look isq) (wpAny_bind (wpAny_rule hc)))))
def rExt (K : PySem.W.Frag) : R2 := fun x y H Q => ∃ l b xs zs, x = .ref l ∧ y = .ref b ∧ H l = some (.lst xs) ∧ (∃ k, SqB k K H b zs) ∧ xs.length + zs.length ≤ sizeLine ∧ Q (.ref l) (upd H l (.lst (xs ++ zs)))
theorem iop_many : OpR X (inplaceOp .Add) (rExt X.K) := by
  intro pins s σ H x y v u Q I rx ry h
  obtain ⟨l, b, xs, zs, rfl, rfl, hH, ⟨k, hB⟩, hz, q⟩ := h
  cases rx
  cases ry
  obtain ⟨z, its, n, r, hl, e⟩ := I.lstM hH
  obtain ⟨its2, r2, src⟩ := hB.read I
  obtain ⟨T, o2, n2, hT, f2, e2, c2, d2⟩ : ∃ (T : String) (o2 : Obj) (n2 : Nat), (T = "list" ∨ T = "tuple") ∧ fillsNumberSlot (.type T) "add" = pure false ∧ s.heap.get? b = some o2 ∧ o2.cls = .type T ∧ o2.data = .seq its2.toArray n2 := by
    cases k with
    | true => obtain ⟨o, e, c, n, d⟩ := src; exact ⟨"tuple", o, n, .inr rfl, noFill_tuple_add, e, c, d⟩
    | false => obtain ⟨o, e, c, n, d⟩ := src; exact ⟨"list", o, n, .inl rfl, noFill_list_add, e, c, d⟩
  obtain ⟨cls, dd, data, sl⟩ := o2
  simp only at c2 d2
  subst c2 d2
  have l2 := r2.length
  have hsz : its.toArray.size + its2.toArray.size ≤ sizeLine := by rw [List.size_toArray, List.size_toArray]; omega
  have hlong : ¬ (!its.toArray.isEmpty && Builtin.List.listTooLong (its.toArray.size + its2.toArray.size)) = true := by
    rw [notLongL hsz, Bool.and_false]
    exact Bool.false_ne_true
  refine iadd_way ⟨_, e, rfl⟩ ⟨_, e2, rfl⟩ f2 (call_meets PySem.F.slot_list_iadd ⟨_, e, rfl⟩ PySem.F.entry_list_iadd (PySem.F.args_list_iadd_2 _ _)
    (iadd_many l its.toArray n b T hT its2.toArray n2 dd sl hlong (by rw [List.size_toArray]; omega) (by rw [Array.size_append]; omega)) ⟨e, e2, ?_⟩)
  refine ⟨.ref l, _, I.lset (its' := its ++ its2) (t' := s.toks) hH e (by simp) (r.append r2) ?_, rfl, q⟩
  rw [List.length_append]
  omega
/-- what stands in the place and what comes to it -/
def ipA (K : PySem.W.Frag) (op : Operator) : TIp := fun x y H Q => (∃ i j z, x = .int i ∧ y = .int j ∧ augI op i (.int j) = some (.int z) ∧ Q (.int z) H) ∨ (op = .Add ∧ rExt K x y H Q)
theorem ip_any (op : Operator) : PIp X op (ipA X.K op) := by
  intro pins s σ H x y v u Q I r1 r2 h
  rcases h with ⟨i, j, z, rfl, rfl, hz, q⟩ | ⟨rfl, h⟩
  · obtain ⟨t, rfl⟩ := r1
    obtain ⟨t', rfl⟩ := r2
    cases op with
    | Add =>
      cases hz
      exact iadd_int ⟨.int _, H, I.tok _, ⟨_, rfl⟩, q⟩
    | Sub =>
      cases hz
      exact isub_int ⟨.int _, H, I.tok _, ⟨_, rfl⟩, q⟩
    | Mult =>
      simp only [augI] at hz
      split at hz
      · rename_i hm
        cases hz
        exact imul_int ⟨.int _, H, I.tok _, ⟨_, rfl⟩, q⟩ (mulOk_ok hm)
      · cases hz
    | _ => cases hz
  · exact iop_many pins s σ H x y v u Q I r1 r2 h
theorem augI_int {op : Operator} {i : Int} {y z : D} (h : augI op i y = some z) : ∃ j w, y = .int j ∧ z = .int w := by
  unfold augI at h
  split at h
  · cases h; exact ⟨_, _, rfl, rfl⟩
  · cases h; exact ⟨_, _, rfl, rfl⟩
  · split at h
    · cases h; exact ⟨_, _, rfl, rfl⟩
    · cases h
  · cases h
theorem augL_ok {i : Nat} {op : Operator} {y : D} {e1 : Env} {k : Fl → Env → Prop} {w : String → Env → Prop} (h : Okr (augL i op y e1) k w) :
    ∃ xs ys, op = .Add ∧ ownD (slot e1 i) = some (.list xs) ∧ items? y = some ys ∧ isLong (xs ++ ys) = true ∧ k .next (e1.set i (reOwn (slot e1 i) (.list (xs ++ ys)))) := by
  unfold augL at h
  split at h
  · rename_i xs ys h1 h2
    split at h
    · rename_i hz
      exact ⟨xs, ys, rfl, h1, h2, hz, h⟩
    · exact h.elim
  · exact h.elim
theorem ps_au {i : Nat} {x : Str} {pos' : Pos} {op : Operator} (h : ∀ te ti, PE X e te → PIp X op ti → PS X (.AugAssign (.Name x pos') op e pos) (tAug i te ti)) (he : PE X e (EV X C W false a')) : PS X (.AugAssign (.Name x pos') op e pos) (EX X C W (.aug i op a')) := by
  refine PS.imp (h _ _ he (ip_any op)) fun D σ H ⟨Z, F, env, r, h⟩ => ?_
  simp only [exec] at h
  split at h
  · rename_i x hs
    obtain ⟨v, e1, q⟩ := r.vl i _ (slot_get hs fun z => nomatch z)
    cases q
    refine ⟨_, e1, ?_⟩
    refine one_s (fr := false) r (fun y e1 => match augI op x y with | some z => .ok .next (e1.set i (.val z)) | none => .stuck) h fun y e2 F1 H1 u h r1 q1 => ?_
    rw [Val.ff] at q1
    cases hz : augI op x y with
    | none => rw [hz] at h; exact h.elim
    | some z =>
      rw [hz] at h
      obtain ⟨j, w, rfl, rfl⟩ := augI_int hz
      cases q1
      exact .inl ⟨x, j, w, rfl, rfl, hz, h F1 _ H1 (Same.refl _) (r1.setV' (.int _))⟩
  · rename_i xs0 hs
    obtain ⟨a, vs0, e1, _⟩ := own_list r (i := i) (by rw [hs]; rfl)
    refine ⟨_, e1, ?_⟩
    refine one_s (fr := false) r (augL i op) h fun y e2 F1 H1 u h r1 q1 => ?_
    rw [Val.ff] at q1
    obtain ⟨xs, ys, rfl, hx, hy, hz, h⟩ := augL_ok h
    have hz : (xs ++ ys).length ≤ big := of_decide_eq_true hz
    obtain ⟨a', vs, e3, e4, z, rr⟩ := own_list r1 hx
    rw [e1] at e3
    cases e3
    obtain ⟨k, b, ws, rfl, sq, rw2⟩ := q1.seq hy
    have bl := big_le
    have l1 := rr.length
    have l2 := rw2.length
    rw [List.length_append] at hz
    have rn := own_put r1 hx e1 (ys := xs ++ ys) (ws := vs ++ ws) (by rw [List.length_append]; omega) (rr.append rw2)
    refine .inr ⟨rfl, a, b, vs, ws, rfl, rfl, e4, ⟨k, sq.sqB r1.fh⟩, by omega, ?_⟩
    have es : σ.set i (some (V.ref a)) = σ := by
      refine List.ext_getElem? fun j => ?_
      by_cases hj : j = i
      · subst hj
        rw [e1, List.getElem?_set_self (List.getElem?_eq_some_iff.mp e1).1]
      · rw [List.getElem?_set_ne (Ne.symm hj)]
    show D.nx (σ.set i (some (V.ref a))) _
    rw [es]
    exact h F1 _ _ (Same.refl _) rn
  · exact h.elim
end
end BT
namespace BT
open PySem PySem.Spec PyProof.Rows L2
theorem mem_dd {k : Int} : ∀ {ns : List Int}, k ∈ dd ns ↔ k ∈ ns
  | [] => Iff.rfl
  | x :: xs => by
    unfold dd
    split
    · rename_i h
      rw [mem_dd (ns := xs), List.mem_cons]
      exact ⟨.inr, fun q => q.elim (fun e => e ▸ h) id⟩
    · rw [List.mem_cons, List.mem_cons, mem_dd (ns := xs)]
theorem dd_nodup : ∀ {ns : List Int}, (dd ns).Nodup
  | [] => List.nodup_nil
  | x :: xs => by
    unfold dd
    split
    · exact dd_nodup
    · rename_i h
      exact List.nodup_cons.mpr ⟨fun q => h (mem_dd.mp q), dd_nodup⟩
theorem perm_of {a b : List Int} (h1 : a.Nodup) (h2 : b.Nodup) (h : ∀ k, k ∈ a ↔ k ∈ b) : a.Perm b := (List.perm_ext_iff_of_nodup h1 h2).mpr h
section
variable {X : Cx} {C : Calls} {W : WX} {a : Expr} {a' : IE} {pos p p2 q : Pos}
theorem pe_lenset {fr : Bool} (hc : X.calm = true) (hg : Gl X "len") (hm : X.mg "len" = none) (hg2 : Gl X "set") (hm2 : X.mg "set" = none) (ha : PE X a (EO X C W a')) (na : starEach [a] X.env = (false, eval a X.env) :: starEach [] X.env) :
    PE X (.Call (.Name "len" p) [.Call (.Name "set" p2) [a] [] q] [] pos) (EV X C W fr (.pr .lenset a')) := by
  have t : PE X (.Call (.Name "len" p) [.Call (.Name "set" p2) [a] [] q] [] pos) (fun σ H Q => EO X C W a' σ H fun x H1 => ∃ F dx D, Same F H1 ∧ RepT X.K F H1 dx x ∧ dpr .lenset dx = some D ∧ OutV X.K F H1 D Q) := by
    refine ⟨fun pins s σ H Q I h => ?_⟩
    refine Call_ (ld_blt I hg hm boot_len (PyProof.Rows.callWith_builtin1 (PyProof.Rows.args_cons (Call_ (ld_blt I hg2 hm2 boot_set (PyProof.Rows.callWith_type1 (PyProof.Rows.args_cons (thn (ha.run pins s σ H _ I h) fun v s1 ⟨x, H1, I1, r1, q1⟩ => PyProof.Rows.args_nil ?_) na) na rfl))) rfl) rfl rfl))
    obtain ⟨F, dx, D, sf, hx, e, o⟩ := q1
    cases dx with
    | tuple ds =>
      simp only [dpr] at e
      split at e
      · rename_i hz
        have hz := of_decide_eq_true hz
        obtain ⟨ns, e1, rfl⟩ := map_none e
        obtain ⟨ad, vs, rfl, hT, rr⟩ := hx.tuple
        rw [ints?_eq e1] at rr
        rw [rr.ofInts] at hT
        cases r1
        obtain ⟨its, r, pl, hzz⟩ := I1.tuple (hT.mono sf).sq
        have hl : ns.length ≤ 4000 := by rw [ints?_eq e1, List.length_map] at hz; exact hz
        refine call_set_tupI ns (I1.ok.hd hc) pl (by simpa using RZ.intsAre_vals r) (by unfold scanBound; omega) fun h' tk c hS hcn hk => PyProof.Rows.args_nil ?_
        obtain ⟨ob, es, ep, t, ho, hex, hd, _, nd, mem, _, hf, hn, _⟩ := hS
        have hcount : es.size = (dd ns).length := by
          have pm := perm_of nd (dd_nodup (ns := ns)) fun k => by rw [← mem k, decide_eq_true_eq, mem_dd]
          have := pm.length_eq
          rwa [List.length_map, Array.length_toList] at this
        have I2 : Inv X pins σ H1 { s1 with heap := h', toks := tk } := I1.kept fun b o e => hk b o e
        exact call_len_set ho hex hd hf (by rw [hn]; omega) ⟨.int ((dd ns).length : Nat), H1, I2.tok _, ⟨_, by rw [hcount]⟩, out_int o⟩
      · cases e
    | _ => cases e
  refine PE.imp t fun σ H Q ⟨Z, F, env, r, h⟩ => one_o (k := kP X.K fr Q Z F σ) r (fun r => match r with | .ok x e1 => ofO (dpr .lenset x) e1 | r => r) (fun x e1 => ofO (dpr .lenset x) e1) (fun _ _ => rfl) (fun _ _ => rfl) rfl (by simp only [ev] at h; exact h) fun x e1 F1 H1 v h s1 r1 q1 => ?_
  obtain ⟨d, e3, h⟩ := okr_of h
  exact ⟨F1, x, d, r1.fh, q1, e3, out_of r1 s1 h⟩
theorem pe_sortset {fr : Bool} (hc : X.calm = true) (hg : Gl X "sorted") (hm : X.mg "sorted" = none) (hg2 : Gl X "set") (hm2 : X.mg "set" = none) (ha : PE X a (EO X C W a')) (na : starEach [a] X.env = (false, eval a X.env) :: starEach [] X.env) :
    PE X (.Call (.Name "sorted" p) [.Call (.Name "set" p2) [a] [] q] [] pos) (EV X C W fr (.pr .sortset a')) := by
  have t : PE X (.Call (.Name "sorted" p) [.Call (.Name "set" p2) [a] [] q] [] pos) (fun σ H Q => EO X C W a' σ H fun x H1 => ∃ F dx D, Same F H1 ∧ RepT X.K F H1 dx x ∧ dpr .sortset dx = some D ∧ OutV X.K F H1 D Q) := by
    refine ⟨fun pins s σ H Q I h => ?_⟩
    refine Call_ (ld_blt I hg hm boot_sorted (PyProof.Rows.callWith_builtin1 (PyProof.Rows.args_cons (Call_ (ld_blt I hg2 hm2 boot_set (PyProof.Rows.callWith_type1 (PyProof.Rows.args_cons (thn (ha.run pins s σ H _ I h) fun v s1 ⟨x, H1, I1, r1, q1⟩ => PyProof.Rows.args_nil ?_) na) na rfl))) rfl) rfl rfl))
    obtain ⟨F, dx, D, sf, hx, e, o⟩ := q1
    cases dx with
    | tuple ds =>
      simp only [dpr] at e
      split at e
      · rename_i hz
        have hz := of_decide_eq_true hz
        obtain ⟨ns, e1, rfl⟩ := map_none e
        obtain ⟨ad, vs, rfl, hT, rr⟩ := hx.tuple
        rw [ints?_eq e1] at rr
        rw [rr.ofInts] at hT
        cases r1
        obtain ⟨its, r, pl, hzz⟩ := I1.tuple (hT.mono sf).sq
        have hl : ns.length ≤ 60 := by rw [ints?_eq e1, List.length_map] at hz; exact hz
        refine call_set_tupI ns (I1.ok.hd hc) pl (by simpa using RZ.intsAre_vals r) (by unfold scanBound; omega) fun h' tk c hS hcn hk => PyProof.Rows.args_nil ?_
        have I2 : Inv X pins σ H1 { s1 with heap := h', toks := tk } := I1.kept fun b o e => hk b o e
        refine sorted_set hS (I2.ok.hd hc) (by omega) fun s' pp out cc ms k g os hp hgt hi hs hmem hlen => ?_
        have em : ms = sortI (dd ns) := by
          refine sortI_of (perm_of (hs.imp fun h => Int.ne_of_lt h) dd_nodup fun k => by rw [hmem k, decide_eq_true_eq, mem_dd]) (hs.imp fun h => Int.le_of_lt h)
        have hll : (ms.map V.int).length ≤ sizeLine := by rw [List.length_map, hlen, sizeLine_eq]; omega
        have hn : H1 pp = none := I2.hok.fresh hp
        have J : Inv X pins σ (upd H1 pp (.lst (ms.map V.int))) { ({ s1 with heap := h', toks := tk } : Shared) with heap := s'.heap, gens := s'.gens, drawn := s'.drawn, toks := s'.toks } :=
          I2.call (ch := []) (Un.laid k hp hn) (I2.hok.laid k hp ⟨hll, out.toList, cc, vals_of_ints hi, hgt⟩) (by rw [g]; exact I2.bare) (fun _ z => nomatch z)
        have e : s' = { ({ s1 with heap := h', toks := tk } : Shared) with heap := s'.heap, gens := s'.gens, drawn := s'.drawn, toks := s'.toks } := by
          cases s'
          cases os
          rfl
        rw [e]
        exact ⟨.ref pp, _, J, rfl, o.2.1 pp _ _ (by rw [em]) hn hll Reps.ints⟩
      · cases e
    | _ => cases e
  refine PE.imp t fun σ H Q ⟨Z, F, env, r, h⟩ => one_o (k := kP X.K fr Q Z F σ) r (fun r => match r with | .ok x e1 => ofO (dpr .sortset x) e1 | r => r) (fun x e1 => ofO (dpr .sortset x) e1) (fun _ _ => rfl) (fun _ _ => rfl) rfl (by simp only [ev] at h; exact h) fun x e1 F1 H1 v h s1 r1 q1 => ?_
  obtain ⟨d, e3, h⟩ := okr_of h
  exact ⟨F1, x, d, r1.fh, q1, e3, out_of r1 s1 h⟩
end
end BT
namespace BT
open PySem PySem.Spec PyProof.Rows L2
/-! ## zip over iterators of any kind, while the pair handed out last still stands -/
section
variable {prog : Program} {w : World} {A : Around} {E : Value → Shared → Prop} {s : Shared} {z TI TO T i1 i2 : Addr} {fp1 fp2 : List Addr} {n1 n2 i : Nat} {P1 P2 : Nat → Value → Prop} {St1 St2 : Nat → Heap → Prop} {f : Bool} {oT : Obj}
theorem zipH_item {Q : Value → Shared → Prop} (S : ZipSep2 z TI TO i1 i2 fp1 fp2) (D1 : Draws prog w A i1 fp1 n1 P1 St1) (D2 : Draws prog w A i2 fp2 n2 P2 St2)
    (hz : IsZipHeld s.heap z TI TO T f) (hT : s.heap.get? T = some oT) (hTI : IsTupOf2 s.heap TI (.ref i1) (.ref i2)) (st1 : St1 i s.heap) (st2 : St2 i s.heap) (hlt1 : i < n1) (hlt2 : i < n2)
    (hQ : ∀ x y h' tk, P1 i x → P2 i y → IsZipHeld h' z TI TO T true → St1 (i + 1) h' → St2 (i + 1) h' → IsTupOf2 h' s.heap.objs.size x y → h'.objs.size = s.heap.objs.size + 1 →
      (∀ c o, c ≠ z → c ≠ i1 → c ≠ i2 → s.heap.get? c = some o → h'.get? c = some o) → Q (.ref s.heap.objs.size) { s with heap := h', toks := tk }) :
    wpAny (model prog w) A (Builtin.«zip.__next__» ⟨[.ref z], []⟩) (fun fin s' => ∃ v, fin = .done (.ret v) ∧ Q v s') E s := by
  obtain ⟨hp, g, d, tk0, os⟩ := s
  show wpAny _ _ (field (.ref z) 2 >>= _) _ _ _
  refine wpAny_bind (wpAny_field hz rfl (x := .bool false) rfl ?_)
  show wpAny _ _ (field (.ref z) 3 >>= _) _ _ _
  refine wpAny_bind (wpAny_field hz rfl (x := .ref TI) rfl ?_)
  refine wpAny_bind (wpAny_seqItems hTI rfl ?_)
  show wpAny _ _ (Builtin.SmallTypes.ownedTupleIsFree (.ref z) >>= _) _ _ _
  refine wpAny_bind (wpAny_tupleHeld_zip hz hT fun h₁ hz₁ hs₁ => ?_)
  replace hz₁ : IsZipHeld h₁ z TI TO T true := hz₁
  replace hs₁ : Heap.SameBut z hp h₁ := hs₁
  simp only [Bool.false_eq_true, if_false]
  refine wpAny_bind ?_
  rw [← Array.forIn_toList]
  simp only [List.forIn_cons, List.forIn_nil]
  refine wpAny_bind (wpAny_bind (wpAny_holding ?_))
  show wpAny _ _ (Builtin.SmallTypes.nextOf (.ref i1) >>= _) _ _ ⟨h₁, g, d, tk0, os⟩
  refine wpAny_bind (D1.item i _ _ _ hlt1 (D1.over st1 hs₁ S.zf1) fun x h₂ tk1 hx1 sn1 hs₂ => wpAny_pure ?_)
  replace hs₂ : Heap.SameBut i1 h₁ h₂ := hs₂
  refine wpAny_pure ?_
  refine wpAny_bind (wpAny_bind (wpAny_holding ?_))
  show wpAny _ _ (Builtin.SmallTypes.nextOf (.ref i2) >>= _) _ _ ⟨h₂, g, d, tk1, os⟩
  refine wpAny_bind (D2.item i _ _ _ hlt2 (D2.over (D2.over st2 hs₁ S.zf2) hs₂ S.sep1_2) fun y h₃ tk2 hy1 sn2 hs₃ => wpAny_pure ?_)
  replace hs₃ : Heap.SameBut i2 h₂ h₃ := hs₃
  refine wpAny_pure (wpAny_pure ?_)
  show wpAny _ _ (newTuple [x, y] >>= _) _ _ _
  refine wpAny_bind (wpAny_newTuple ?_)
  have hsz : h₃.objs.size = hp.objs.size := by rw [hs₃.1, hs₂.1, hs₁.1]
  have hz₃ : IsZipHeld h₃ z TI TO T true := hs₃.extBut _ _ S.zi2 (hs₂.extBut _ _ S.zi1 hz₁)
  have hk : ∀ c o, c ≠ z → c ≠ i1 → c ≠ i2 → hp.get? c = some o → h₃.get? c = some o := fun c o c1 c2 c3 e => hs₃.extBut _ _ c3 (hs₂.extBut _ _ c2 (hs₁.extBut _ _ c1 e))
  have hj1 : St1 (i + 1) h₃ := D1.over sn1 hs₃ S.sep2_1
  refine wpAny_pure ⟨_, rfl, ?_⟩
  show Q (.ref h₃.objs.size) _
  have hpp : IsTupOf2 (h₃.push { cls := .type "tuple", data := .seq #[x, y] }) h₃.objs.size x y := Heap.get?_push_size _ rfl
  have hz4 : (h₃.push { cls := .type "tuple", data := .seq #[x, y] }).objs.size = h₃.objs.size + 1 := Heap.size_push ..
  rw [hsz] at hpp hz4 ⊢
  exact hQ x y _ tk2 hx1 hy1 (Heap.get?_push_of_some _ hz₃) (D1.frame _ _ _ hj1 fun b _ o e => Heap.get?_push_of_some _ e) (D2.frame _ _ _ sn2 fun b _ o e => Heap.get?_push_of_some _ e) hpp hz4 fun c o c1 c2 c3 e => Heap.get?_push_of_some _ (hk c o c1 c2 c3 e)
theorem zipH_end {Q : Fin → Shared → Prop} (S : ZipSep2 z TI TO i1 i2 fp1 fp2) (D1 : Draws prog w A i1 fp1 n1 P1 St1) (D2 : Draws prog w A i2 fp2 n2 P2 St2)
    (hz : IsZipHeld s.heap z TI TO T f) (hT : s.heap.get? T = some oT) (hTI : IsTupOf2 s.heap TI (.ref i1) (.ref i2)) (st1 : St1 i s.heap) (st2 : St2 i s.heap) (b1 : i ≤ n1) (b2 : i ≤ n2) (hend : i = n1 ∨ i = n2)
    (hE : ∀ h' e tk, (∀ c o, c ≠ z → c ≠ i1 → c ≠ i2 → s.heap.get? c = some o → h'.get? c = some o) → (∃ o, h'.get? e = some o ∧ o.cls = .type "StopIteration") → E (.ref e) { s with heap := h', toks := tk }) :
    wpAny (model prog w) A (Builtin.«zip.__next__» ⟨[.ref z], []⟩) Q E s := by
  obtain ⟨hp, g, d, tk0, os⟩ := s
  show wpAny _ _ (field (.ref z) 2 >>= _) _ _ _
  refine wpAny_bind (wpAny_field hz rfl (x := .bool false) rfl ?_)
  show wpAny _ _ (field (.ref z) 3 >>= _) _ _ _
  refine wpAny_bind (wpAny_field hz rfl (x := .ref TI) rfl ?_)
  refine wpAny_bind (wpAny_seqItems hTI rfl ?_)
  show wpAny _ _ (Builtin.SmallTypes.ownedTupleIsFree (.ref z) >>= _) _ _ _
  refine wpAny_bind (wpAny_tupleHeld_zip hz hT fun h₁ hz₁ hs₁ => ?_)
  replace hz₁ : IsZipHeld h₁ z TI TO T true := hz₁
  replace hs₁ : Heap.SameBut z hp h₁ := hs₁
  simp only [Bool.false_eq_true, if_false]
  refine wpAny_bind ?_
  rw [← Array.forIn_toList]
  simp only [List.forIn_cons, List.forIn_nil]
  refine wpAny_bind (wpAny_bind (wpAny_holding ?_))
  show wpAny _ _ (Builtin.SmallTypes.nextOf (.ref i1) >>= _) _ _ ⟨h₁, g, d, tk0, os⟩
  by_cases hx : i = n1
  · subst hx
    refine wpAny_bind (D1.done _ _ _ (D1.over st1 hs₁ S.zf1) fun h₂ e hs₂ he => ?_)
    exact hE h₂ e tk0 (fun c o c1 c2 _ x => hs₂ _ _ c2 (hs₁.extBut _ _ c1 x)) he
  · have hy : i = n2 := by omega
    subst hy
    refine wpAny_bind (D1.item i _ _ _ (by omega) (D1.over st1 hs₁ S.zf1) fun x h₂ tk1 hx1 sn1 hs₂ => wpAny_pure ?_)
    replace hs₂ : Heap.SameBut i1 h₁ h₂ := hs₂
    refine wpAny_pure ?_
    refine wpAny_bind (wpAny_bind (wpAny_holding ?_))
    show wpAny _ _ (Builtin.SmallTypes.nextOf (.ref i2) >>= _) _ _ ⟨h₂, g, d, tk1, os⟩
    refine wpAny_bind (D2.done _ _ _ (D2.over (D2.over st2 hs₁ S.zf2) hs₂ S.sep1_2) fun h₃ e hs₃ he => ?_)
    exact hE h₃ e tk1 (fun c o c1 c2 c3 x => hs₃ _ _ c3 (hs₂.extBut _ _ c2 (hs₁.extBut _ _ c1 x))) he
theorem next_zipH_item {Q : Option Value → Shared → Prop} (S : ZipSep2 z TI TO i1 i2 fp1 fp2) (D1 : Draws prog w A.in1 i1 fp1 n1 P1 St1) (D2 : Draws prog w A.in1 i2 fp2 n2 P2 St2)
    (hz : IsZipHeld s.heap z TI TO T f) (hT : s.heap.get? T = some oT) (hTI : IsTupOf2 s.heap TI (.ref i1) (.ref i2)) (st1 : St1 i s.heap) (st2 : St2 i s.heap) (hlt1 : i < n1) (hlt2 : i < n2)
    (hQ : ∀ x y h' tk, P1 i x → P2 i y → IsZipHeld h' z TI TO T true → St1 (i + 1) h' → St2 (i + 1) h' → IsTupOf2 h' s.heap.objs.size x y → h'.objs.size = s.heap.objs.size + 1 →
      (∀ c o, c ≠ z → c ≠ i1 → c ≠ i2 → s.heap.get? c = some o → h'.get? c = some o) → Q (some (.ref s.heap.objs.size)) { s with heap := h', toks := tk }) :
    wpAny (model prog w) A (pyNext (.ref z)) Q E s := by
  have hTy : s.TypeIs (.ref z) "zip" := ⟨_, hz, rfl⟩
  unfold pyNext
  exact wpAny_bind (wpAny_attempt (wpAny_callSpecial?_slot (name := Str.ofString "__next__") hTy F.slot_zip_next
    (wpAny_call_entry F.slot_zip_next hTy F.entry_zip_next
      (zipH_item S D1 D2 hz hT hTI st1 st2 hlt1 hlt2 fun x y h' tk q1 q2 a1 a3 a4 a5 a6 a7 => wpAny_pure (hQ x y h' tk q1 q2 a1 a3 a4 a5 a6 a7)) (F.args_zip_next_1 _))))
theorem next_zipH_end {Q : Option Value → Shared → Prop} (S : ZipSep2 z TI TO i1 i2 fp1 fp2) (D1 : Draws prog w A.in1 i1 fp1 n1 P1 St1) (D2 : Draws prog w A.in1 i2 fp2 n2 P2 St2)
    (hz : IsZipHeld s.heap z TI TO T f) (hT : s.heap.get? T = some oT) (hTI : IsTupOf2 s.heap TI (.ref i1) (.ref i2)) (st1 : St1 i s.heap) (st2 : St2 i s.heap) (b1 : i ≤ n1) (b2 : i ≤ n2) (hend : i = n1 ∨ i = n2)
    (hQ : ∀ h' tk, (∀ c o, c ≠ z → c ≠ i1 → c ≠ i2 → s.heap.get? c = some o → h'.get? c = some o) → Q none { s with heap := h', toks := tk }) : wpAny (model prog w) A (pyNext (.ref z)) Q E s := by
  have hTy : s.TypeIs (.ref z) "zip" := ⟨_, hz, rfl⟩
  unfold pyNext
  refine wpAny_bind (wpAny_attempt (wpAny_callSpecial?_slot (name := Str.ofString "__next__") hTy F.slot_zip_next
    (wpAny_call_entry F.slot_zip_next hTy F.entry_zip_next (zipH_end S D1 D2 hz hT hTI st1 st2 b1 b2 hend fun h' e tk hk he => ?_) (F.args_zip_next_1 _))))
  obtain ⟨o, ho, hc⟩ := he
  refine wpAny_bind (wpAny_isInstance (T := "StopIteration") (b := true) ⟨o, ho, hc⟩ isSubtype_stop ?_)
  exact wpAny_pure (hQ _ _ hk)
end
/-- zip(a, b) as an argument of dict(..), a and b lists or tuples -/
theorem pair_zip (X : Cx) (k l : Bool) (z TI TO i1 i2 a b : Addr) (S : ZipSep2 z TI TO i1 i2 [i1, a] [i2, b]) (nea : a ≠ i1) (neb : b ≠ i2) (us ws : List Value) :
    PairArg X.prog X.w "zip" z [z, TI, TO, i1, i2, a, b] [z, TO, i1, i2] (min us.length ws.length) (fun i k v => us[i]? = some k ∧ ws[i]? = some v)
      (fun h => IsZip h z TI TO .none ∧ IsTupOf2 h TI (.ref i1) (.ref i2) ∧ (∃ x y, IsTupOf2 h TO x y) ∧ ItB k h i1 a 0 ∧ ItB l h i2 b 0 ∧ SrcB k h a us ∧ SrcB l h b ws) where
  type := fun s ok => ⟨_, ok.1, rfl⟩
  notDict := by decide
  keep := fun h h' ok hk => by
    obtain ⟨hz, hTI, ⟨x, y, hTO⟩, h1, h2, hl1, hl2⟩ := ok
    exact ⟨hk _ _ hz, hk _ _ hTI, ⟨x, y, hk _ _ hTO⟩, h1.lay fun o e => hk _ o e, h2.lay fun o e => hk _ o e, hl1.lay fun o e => hk _ o e, hl2.lay fun o e => hk _ o e⟩
  there := fun h ok c hb => by
    obtain ⟨hz, hTI, ⟨x, y, hTO⟩, h1, h2, hl1, hl2⟩ := ok
    obtain ⟨o1, e1, _⟩ := h1.obj
    obtain ⟨o2, e2, _⟩ := h2.obj
    have g1 : ∃ o, h.get? a = some o := by cases k <;> (obtain ⟨o, e, _⟩ := hl1; exact ⟨o, e⟩)
    have g2 : ∃ o, h.get? b = some o := by cases l <;> (obtain ⟨o, e, _⟩ := hl2; exact ⟨o, e⟩)
    simp only [List.mem_cons, List.not_mem_nil, or_false] at hb
    rcases hb with rfl | rfl | rfl | rfl | rfl | rfl | rfl
    · exact ⟨_, hz⟩
    · exact ⟨_, hTI⟩
    · exact ⟨_, hTO⟩
    · exact ⟨_, e1⟩
    · exact ⟨_, e2⟩
    · exact g1
    · exact g2
  sub := fun c hb => by simp at hb ⊢; rcases hb with rfl | rfl | rfl | rfl <;> simp
  noKeys := fun A s Q E hA ok h => getAttrOr_miss_zip ok.1 rfl rfl rfl zip_no_keys (by decide +kernel) hA h
  iter := fun A s d Q E hA ok hd hdf h => by
    obtain ⟨hz, hTI, ⟨x, y, hTO⟩, h1, h2, hl1, hl2⟩ := ok
    simp only [List.mem_cons, List.not_mem_nil, or_false, not_or] at hdf
    obtain ⟨dz, dTI, dTO, di1, di2, dl1, dl2⟩ := hdf
    have hD1 := draw_any (X := X) (A := A.in1) hA k i1 a us nea
    have hD2 := draw_any (X := X) (A := A.in1) hA l i2 b ws neb
    refine wpAny_pyIter_zip hz (h z [z, TO, i1, i2] (fun i h => IsTupOf2 h TI (.ref i1) (.ref i2) ∧ ItB k h i1 a i ∧ ItB l h i2 b i ∧ SrcB k h a us ∧ SrcB l h b ws ∧
      ((IsZip h z TI TO .none ∧ ∃ x y, IsTupOf2 h TO x y) ∨ ∃ T f oT, IsZipHeld h z TI TO T f ∧ h.get? T = some oT ∧ T ≠ z ∧ T ≠ i1 ∧ T ≠ i2 ∧ T ≠ d)) s.heap s.toks ?_
      ⟨hTI, h1, h2, hl1, hl2, .inl ⟨hz, x, y, hTO⟩⟩ (fun _ _ e => e) fun b hb => .inl hb)
    exact {
      off := fun hm => by
        simp only [List.mem_cons, List.not_mem_nil, or_false] at hm
        rcases hm with e | e | e | e
        · exact dz e
        · exact dTO e
        · exact di1 e
        · exact di2 e
      frame := fun i h₁ h₂ st hk => by
        obtain ⟨hTI, h1, h2, hl1, hl2, hz⟩ := st
        refine ⟨hk _ _ (Ne.symm dTI) hTI, h1.lay fun o e => hk _ o (Ne.symm di1) e, h2.lay fun o e => hk _ o (Ne.symm di2) e, hl1.lay fun o e => hk _ o (Ne.symm dl1) e, hl2.lay fun o e => hk _ o (Ne.symm dl2) e, ?_⟩
        rcases hz with ⟨hz, x, y, hTO⟩ | ⟨T, f, oT, hz, hT, r1, r2, r3, r4⟩
        · exact .inl ⟨hk _ _ (Ne.symm dz) hz, x, y, hk _ _ (Ne.symm dTO) hTO⟩
        · exact .inr ⟨T, f, oT, hk _ _ (Ne.symm dz) hz, hk _ _ r4 hT, r1, r2, r3, r4⟩
      item := fun i s₁ Q₁ E₁ hi st hds hQ => by
        obtain ⟨hTI, h1, h2, hl1, hl2, hz⟩ := st
        have hix : i < us.toArray.size := by rw [List.size_toArray]; exact Nat.lt_of_lt_of_le hi (Nat.min_le_left ..)
        have hiy : i < ws.toArray.size := by rw [List.size_toArray]; exact Nat.lt_of_lt_of_le hi (Nat.min_le_right ..)
        have lt : ∀ {c o}, s₁.heap.get? c = some o → s₁.heap.objs.size ≠ c := fun e => Nat.ne_of_gt (Heap.lt_size e)
        have n1 : s₁.heap.objs.size ≠ i1 := let ⟨_, e, _⟩ := h1.obj; lt e
        have n2 : s₁.heap.objs.size ≠ i2 := let ⟨_, e, _⟩ := h2.obj; lt e
        have cv : ∀ {l : List Value} {j : Nat} {x : Value}, l.toArray[j]? = some x → l[j]? = some x := fun e => by rw [← Array.getElem?_toList] at e; exact e
        rcases hz with ⟨hz, x, y, hTO⟩ | ⟨T, f, oT, hz, hT, r1, r2, r3, r4⟩
        · refine wpAny_pyNext_zipD2_item S hD1 hD2 hz hTI hTO ⟨h1, hl1⟩ ⟨h2, hl2⟩ hix hiy fun y1 y2 h' tk e1 e2 z' TO' s1' s2' hT hsz hk => ?_
          exact hQ s₁.heap.objs.size _ _ h' tk ⟨cv e1, cv e2⟩ (.inl ⟨_, hT, rfl, _, rfl⟩)
            ⟨hk _ _ S.TIz S.TITO S.TIi1 S.TIi2 hTI, s1'.1, s2'.1, s1'.2, s2'.2, .inr ⟨s₁.heap.objs.size, false, _, z', hT, lt hz, n1, n2, Nat.ne_of_gt hds⟩⟩
            fun c o hc e => hk c o (fun x => hc (by simp [x])) (fun x => hc (by simp [x])) (fun x => hc (by simp [x])) (fun x => hc (by simp [x])) e
        · refine next_zipH_item S hD1 hD2 hz hT hTI ⟨h1, hl1⟩ ⟨h2, hl2⟩ hix hiy fun y1 y2 h' tk e1 e2 z' s1' s2' hT' hsz hk => ?_
          exact hQ s₁.heap.objs.size _ _ h' tk ⟨cv e1, cv e2⟩ (.inl ⟨_, hT', rfl, _, rfl⟩)
            ⟨hk _ _ S.TIz S.TIi1 S.TIi2 hTI, s1'.1, s2'.1, s1'.2, s2'.2, .inr ⟨T, true, oT, z', hk _ _ r1 r2 r3 hT, r1, r2, r3, r4⟩⟩
            fun c o hc e => hk c o (fun x => hc (by simp [x])) (fun x => hc (by simp [x])) (fun x => hc (by simp [x])) e
      done := fun s₁ Q₁ E₁ st hQ => by
        obtain ⟨hTI, h1, h2, hl1, hl2, hz⟩ := st
        have b1 : min us.length ws.length ≤ us.toArray.size := by rw [List.size_toArray]; exact Nat.min_le_left ..
        have b2 : min us.length ws.length ≤ ws.toArray.size := by rw [List.size_toArray]; exact Nat.min_le_right ..
        have hend : min us.length ws.length = us.toArray.size ∨ min us.length ws.length = ws.toArray.size := by rw [List.size_toArray, List.size_toArray]; omega
        rcases hz with ⟨hz, x, y, hTO⟩ | ⟨T, f, oT, hz, hT, r1, r2, r3, r4⟩
        · exact wpAny_pyNext_zipD2_end S hD1 hD2 hz hTI hTO ⟨h1, hl1⟩ ⟨h2, hl2⟩ b1 b2 hend fun h' tk hk => hQ h' tk fun c o hc e => hk c o (fun x => hc (by simp [x])) (fun x => hc (by simp [x])) (fun x => hc (by simp [x])) (fun x => hc (by simp [x])) e
        · exact next_zipH_end S hD1 hD2 hz hT hTI ⟨h1, hl1⟩ ⟨h2, hl2⟩ b1 b2 hend fun h' tk hk => hQ h' tk fun c o hc e => hk c o (fun x => hc (by simp [x])) (fun x => hc (by simp [x])) (fun x => hc (by simp [x])) e }
end BT
namespace BT
open PySem PySem.Spec PyProof.Rows L2
/-! ## dicts: displays, get, dict(zip(..)); texts joined -/
theorem fresh_out {K : PySem.W.Frag} {Z : Ent} {F F0 H : Hp} {env : Env} {σ : L2.St} {fr : Bool} {Q : VK} {d : D} {p : Addr} (r : R K Z F env σ H) (il : isL d = true) (f : Fresh K Z F env σ H d p) (s : Same F0 F) (h : kP K fr Q Z F0 σ d env) : Q (.ref p) H := by
  cases fr with
  | true => exact h F H _ s r (Val.of_fresh il f)
  | false =>
    obtain ⟨r2, s2, q⟩ := r.freeze f
    exact h _ H _ (s.trans s2) r2 (by rw [Val.ff]; exact q)
section
variable {X : Cx} {C : Calls} {W : WX} {a b c e o f : Expr} {es : List Expr} {a' b' c' : IE} {as' : IEs} {pos p : Pos} {x : Str} {q : Pos}
theorem pe_dnw {fr : Bool} : PE X (.Dict [] [] pos) (EV X C W fr .dnew) :=
  PE.imp pe_dnewE fun σ H Q ⟨Z, F, env, r, h⟩ p ob hp ow => (out_of r (Same.refl F) (show kP X.K fr Q Z F σ (.dict []) env from h)).2.2.2 p ob rfl hp (ow F)
/-! one pair -/
def tDsp (K : PySem.W.Frag) (tk tv : TE) : TE := fun σ H Q => ∀ p ob, H p = none → tk σ (upd H p ob) fun x H1 => tv σ H1 fun y H2 => ∃ F kd d, Same F H2 ∧ keyN 8 kd = true ∧ isTup kd = true ∧ Rep K F kd x ∧ Rep K F d y ∧ H2 p = some ob ∧ ∀ ob', Own K F (upd H2 p ob') (.dict [(kd, d)]) p → Q (.ref p) (upd H2 p ob')
theorem pe_dsp1 {k v : Expr} {tk tv : TE} (hu : X.A.units + 64 < cLine) (hk : PE X k tk) (hv : PE X v tv) : PE X (.Dict [some k] [v] pos) (tDsp X.K tk tv) := by
  refine ⟨fun pins s σ H Q I q => ?_⟩
  have hn := I.hok.fresh (Nat.le_refl s.heap.objs.size)
  have hd : (s.heap.objs.size == sysModules) = false := beq_eq_false_iff_ne.mpr (Ne.symm (Nat.ne_of_lt I.big))
  have hg : (s.heap.push { cls := .type "dict", data := .dict #[] }).get? s.heap.objs.size = some { cls := .type "dict", data := .dict #[] } := Heap.get?_push_size _ rfl
  have I1 := I.laid (a := s.heap.objs.size) (o := .ext (objIs s.heap.objs.size { cls := .type "dict", data := .dict #[] })) (h' := s.heap.push { cls := .type "dict", data := .dict #[] }) (t' := s.toks) (fun _ _ q => Heap.get?_push_of_some _ q) (Nat.le_refl _)
    ⟨hg, ⟨_, hg⟩, fun h1 h2 p k => k _ p⟩
  rw [arm_eval_Dict, zip_pairTrees [some k] [v] X.env pos rfl rfl, dictDisplay_pairs _ (by
    intro z
    have := pairTrees_length [some k] [v] X.env pos rfl rfl
    rw [z] at this; cases this) (by rw [pairTrees_length _ _ _ _ rfl rfl]; show 1 < 17; decide)]
  refine wpAny_bind (wpAny_standAt (wpAny_bind (wpAny_subDictH (knd := nestedKind X.prog X.w) (Q := fun d s' => wpAny (model X.prog X.w) X.A (pure (Value.ref d)) (EP X pins σ Q) X.xe s') (show X.A.units + 8 < cLine by omega) (by rw [pairTrees_length _ _ _ _ rfl rfl]; show 1 ≤ 15; decide)
    (pairTrees_cons_walk (thn (hk.run pins _ σ _ _ I1 (q _ _ hn)) fun u s1 ⟨x, H1, I2, rx, q1⟩ => thn (hv.run pins s1 σ H1 _ I2 q1) fun w2 s2 ⟨y, H2, I3, ry, F, kd, d, sf, k1, k2, rk, rd, hp, q2⟩ => pairTrees_nil_walk ?_)))))
  have ho : s2.heap.get? s.heap.objs.size = some { cls := .type "dict", data := .dict #[] } := (I3.hok _ _ hp).1
  obtain ⟨ds, ed⟩ := keyN_tup k1 k2
  obtain ⟨b, rfl⟩ : ∃ b, x = .ref b := by rw [ed] at rk; exact rk.tref
  cases rx
  have ki := key_is I3 sf k1 rk
  refine ⟨[(nkey kd, b, w2)], ⟨rfl, rfl, ki, trivial⟩, ⟨_, #[], 0, ho, ⟨rfl, rfl, rfl⟩, rfl, rfl, (fun x hx => nomatch hx), List.nodup_nil⟩, fun h' tk dd hs => wpAny_pure ?_⟩
  obtain ⟨o, es, ep, ho', oc, od, oe, _, on⟩ := dd
  have kt : KVT X.K F [(kd, d)] [(nkey kd, b, w2)] := .cons ⟨rfl, k1, rk, y, rd, ry⟩ .nil
  obtain ⟨ks', vs', e1, e2, e3⟩ := tup_ent (P := X.prog) (w := X.w) kt
  have oe : es.toList = [(nkey kd, b, w2)].map (entryOfKey (nestedKind X.prog X.w)) := oe
  rw [← oe] at e1
  refine ⟨.ref s.heap.objs.size, _, dct_write I3 hp ho' hs, rfl, q2 (.ext (objIs s.heap.objs.size o)) ⟨ks', vs', ⟨hd, o, upd_same, ⟨oc, ⟨es, ep, od, e1⟩, by simp, .inr fun x hx => ?_, by rw [sizeLine_eq]; show 1 ≤ 16777216; decide⟩⟩, e2, e3⟩⟩
  rw [List.mem_singleton.mp hx]
  exact ⟨k1, k2⟩
theorem pe_dsp {fr : Bool} {k v : Expr} (hu : X.A.units + 64 < cLine) (ha : PE X k (EV X C W false a')) (hb : PE X v (EV X C W false b')) : PE X (.Dict [some k] [v] pos) (EV X C W fr (.dsp a' b')) := by
  refine PE.imp (pe_dsp1 hu ha hb) fun σ H Q ⟨Z, F, env, r, h⟩ p ob hp => ?_
  simp only [ev] at h
  refine ⟨Z.plus p ob, F, env, r.plus hp, ?_⟩
  have zp := r.z0 hp
  have zx := r.xn hp
  have zf : Z.F p = none := r.f0.free (r.f0n hp)
  cases h1 : ev C a' env with
  | ok x e1 =>
    rw [h1] at h
    simp only at h
    intro F1 H1 v s1 r1 q1
    rw [Val.ff] at q1
    refine ⟨Z.plus p ob, F1, e1, r1, ?_⟩
    cases h2 : ev C b' e1 with
    | ok y e2 =>
      rw [h2] at h
      simp only at h
      intro F2 H2 u s2 r2 q2
      rw [Val.ff] at q2
      split at h
      · rename_i hk
        rw [Bool.and_eq_true] at hk
        refine ⟨F2, x, y, r2.fh, hk.1, hk.2, q1.mono s2, q2, r2.pAt zp zx, fun ob' ow => ?_⟩
        have r3 := (r2.chg zp zx zf ob').minus zp zx
        exact fresh_out r3 rfl ⟨ow, r2.pF zp zx zf, zp, zx, fun i x d e e' e3 => r2.pNe zp zx e e' e3 rfl⟩ (s1.trans s2) h
      · exact h.elim
    | exc c e2 => rw [h2] at h; exact fun F' H' s' r' => h F' H' (s1.trans s') (r'.minus zp zx)
    | stuck => rw [h2] at h; exact h.elim
  | exc c e1 => rw [h1] at h; exact fun F' H' s' r' => h F' H' s' (r'.minus zp zx)
  | stuck => rw [h1] at h; exact h.elim
/-! d.get(k), d.get(k, x) -/
def isDx (H : Hp) (x : V) : Prop := ∃ a o, x = .ref a ∧ H a = some (.ext (objIs a o)) ∧ o.ExactDict
theorem RepT.isDx {K : PySem.W.Frag} {F H : Hp} {d : D} {v : V} (s : Same F H) (hd : isDct d = true) (h : RepT K F H d v) : isDx H v := by
  cases d with
  | dict kvs =>
    obtain ⟨a, ks, vs, rfl, ⟨_, o, e, w⟩, _⟩ := h.dict s
    exact ⟨a, o, rfl, e, w.ex⟩
  | _ => cases hd
def rGet (K : PySem.W.Frag) : V → V → V → Hp → VK → Prop := fun x y z H Q => ∃ F kvs k d, Same F H ∧ RepT K F H (.dict kvs) x ∧ RepT K F H k y ∧ Rep K F d z ∧ kOk kvs k = true ∧ ∀ w, Rep K F ((dlook kvs k).getD d) w → Q w H
def tG1 (K : PySem.W.Frag) (td ty : TE) : TE := fun σ H Q => td σ H fun x H1 => BT.isDx H1 x ∧ ty σ H1 fun y H2 => rGet K x y .non H2 Q
def tG2 (K : PySem.W.Frag) (td ty tx : TE) : TE := fun σ H Q => td σ H fun x H1 => BT.isDx H1 x ∧ ty σ H1 fun y H2 => tx σ H2 fun z H3 => rGet K x y z H3 Q
theorem isDx_at {pins : List (Addr × Obj)} {σ : L2.St} {H : Hp} {s : Shared} {x : V} {u : Value} (I : Inv X pins σ H s) (d : BT.isDx H x) (rx : RelV x u) : s.TypeIs u "dict" ∧ (∀ b, u = .ref b → ∃ ob, s.heap.get? b = some ob ∧ ob.dict = none) := by
  obtain ⟨a, o, rfl, e, w⟩ := d
  cases rx
  have ho : s.heap.get? a = some o := (I.hok a _ e).1
  exact ⟨⟨o, ho, w.1⟩, fun b q => by cases q; exact ⟨o, ho, w.2.1⟩⟩
variable {apos cpos : Pos} {td ty tx : TE}
theorem pe_g1 (hu : X.A.units + 64 < cLine) (ho : PE X o td) (he : PE X e ty) (m : M1 X o "get" apos e cpos) : PE X (.Call (.Attribute o "get" apos) [e] [] cpos) (tG1 X.K td ty) := by
  refine ⟨fun pins s σ H Q I h => ?_⟩
  refine wpAny_Call_method m.base m.few m.line PySem.F.plainAttrs_dict PySem.F.slot_dict_get PySem.F.type_dict_get (thn (ho.run pins s σ H _ I h) fun u s1 ⟨x, H1, I1, rx, d, q1⟩ => ?_)
  obtain ⟨t1, t2⟩ := isDx_at I1 d rx
  refine ⟨t1, t2, ?_⟩
  rw [m.trees]
  refine Calls.callWith_builtin rfl (Calls.evalArgs_plain (Calls.spliced_cons (thn (he.run pins s1 σ H1 _ I1 q1) fun iv s2 ⟨y, H2, I2, ry, q2⟩ => Calls.spliced_nil ?_)))
  obtain ⟨F, kvs, k, dd, sf, hx, hy, hz, ok, q⟩ := q2
  cases hz
  exact dct_get hu I2 sf hx rx hy ry ok [] (.inl ⟨rfl, rfl⟩) q
theorem pe_g2 (hu : X.A.units + 64 < cLine) (ho : PE X o td) (he : PE X e ty) (hf : PE X f tx) (m : M2 X o "get" apos e f cpos) : PE X (.Call (.Attribute o "get" apos) [e, f] [] cpos) (tG2 X.K td ty tx) := by
  refine ⟨fun pins s σ H Q I h => ?_⟩
  refine wpAny_Call_method m.base m.few m.line PySem.F.plainAttrs_dict PySem.F.slot_dict_get PySem.F.type_dict_get (thn (ho.run pins s σ H _ I h) fun u s1 ⟨x, H1, I1, rx, d, q1⟩ => ?_)
  obtain ⟨t1, t2⟩ := isDx_at I1 d rx
  refine ⟨t1, t2, ?_⟩
  rw [m.trees]
  refine Calls.callWith_builtin rfl (Calls.evalArgs_plain (Calls.spliced_cons (thn (he.run pins s1 σ H1 _ I1 q1) fun iv s2 ⟨y, H2, I2, ry, q2⟩ =>
    Calls.spliced_cons (thn (hf.run pins s2 σ H2 _ I2 q2) fun fv s3 ⟨z, H3, I3, rz, q3⟩ => Calls.spliced_nil ?_))))
  obtain ⟨F, kvs, k, dd, sf, hx, hy, hz, ok, q⟩ := q3
  exact dct_get hu I3 sf hx rx hy ry ok [fv] (.inr ⟨z, fv, rfl, rz, hz⟩) q
theorem pe_gt1 (hu : X.A.units + 64 < cLine) (ho : PE X o (EO X C W a')) (he : PE X e (EV X C W false b')) (m : M1 X o "get" apos e cpos) : PE X (.Call (.Attribute o "get" apos) [e] [] cpos) (EV X C W false (.get1 a' b')) := by
  refine PE.imp (pe_g1 hu ho he m) fun σ H Q ⟨Z, F, env, r, h⟩ => ⟨Z, F, env, r, ?_⟩
  simp only [ev] at h
  cases h1 : ev C a' env with
  | ok x e1 =>
    rw [h1] at h
    simp only at h
    intro F1 H1 v s1 r1 q1
    split at h
    · rename_i hd
      refine ⟨(q1.now r1 h1).isDx r1.fh hd, Z, F1, e1, r1, ?_⟩
      cases h2 : ev C b' e1 with
      | ok y e2 =>
        rw [h2] at h
        simp only at h
        intro F2 H2 u s2 r2 q2
        rw [Val.ff] at q2
        obtain ⟨d, e3, h⟩ := okr_of h
        obtain ⟨x', e4, e5⟩ := bind_none e3
        have q1' := q1.late s2 r2 e4
        cases x' with
        | dict kvs =>
          simp only [dget] at e5
          split at e5
          · rename_i ok
            cases e5
            exact ⟨F2, kvs, y, .none, r2.fh, q1', .rep q2, .non, ok, fun w hw => h F2 H2 w (s1.trans s2) r2 (by rw [Val.ff]; exact hw)⟩
          · cases e5
        | _ => cases e5
      | exc c e2 => rw [h2] at h; exact kX.mono (F := F) h s1
      | stuck => rw [h2] at h; exact h.elim
    · exact h.elim
  | exc c e1 => rw [h1] at h; exact h
  | stuck => rw [h1] at h; exact h.elim
theorem pe_gt2 (hu : X.A.units + 64 < cLine) (ho : PE X o (EO X C W a')) (he : PE X e (EV X C W false b')) (hf : PE X f (EV X C W false c')) (m : M2 X o "get" apos e f cpos) : PE X (.Call (.Attribute o "get" apos) [e, f] [] cpos) (EV X C W false (.get2 a' b' c')) := by
  refine PE.imp (pe_g2 hu ho he hf m) fun σ H Q ⟨Z, F, env, r, h⟩ => ⟨Z, F, env, r, ?_⟩
  simp only [ev] at h
  cases h1 : ev C a' env with
  | ok x e1 =>
    rw [h1] at h
    simp only at h
    intro F1 H1 v s1 r1 q1
    split at h
    · rename_i hd
      refine ⟨(q1.now r1 h1).isDx r1.fh hd, Z, F1, e1, r1, ?_⟩
      cases h2 : ev C b' e1 with
      | ok y e2 =>
        rw [h2] at h
        simp only at h
        intro F2 H2 u s2 r2 q2
        rw [Val.ff] at q2
        refine ⟨Z, F2, e2, r2, ?_⟩
        cases h3 : ev C c' e2 with
        | ok z e3 =>
          rw [h3] at h
          simp only at h
          intro F3 H3 w s3 r3 q3
          rw [Val.ff] at q3
          obtain ⟨d, e4, h⟩ := okr_of h
          obtain ⟨x', e5, e6⟩ := bind_none e4
          have q1' := q1.late (s2.trans s3) r3 e5
          cases x' with
          | dict kvs =>
            simp only [dget] at e6
            split at e6
            · rename_i ok
              cases e6
              exact ⟨F3, kvs, y, z, r3.fh, q1', .rep (q2.mono s3), q3, ok, fun w hw => h F3 H3 w ((s1.trans s2).trans s3) r3 (by rw [Val.ff]; exact hw)⟩
            · cases e6
          | _ => cases e6
        | exc c e3 => rw [h3] at h; exact kX.mono (F := F) h (s1.trans s2)
        | stuck => rw [h3] at h; exact h.elim
      | exc c e2 => rw [h2] at h; exact kX.mono (F := F) h s1
      | stuck => rw [h2] at h; exact h.elim
    · exact h.elim
  | exc c e1 => rw [h1] at h; exact h
  | stuck => rw [h1] at h; exact h.elim
end

/-! dict(zip(a, b)) -/
theorem keyN_lit {n : Nat} {i : Int} : keyN n (.int i) = true := keyN_int
theorem dstoreAll_int {ps : List (D × D)} (hp : ∀ p ∈ ps, ∃ i, p.1 = .int i) : ∀ acc : List (D × D), (∀ x ∈ acc.map (·.1), ∃ i, x = .int i) → (acc.map (·.1)).Nodup →
    (∀ x ∈ (dstoreAll acc ps).map (·.1), ∃ i, x = .int i) ∧ ((dstoreAll acc ps).map (·.1)).Nodup ∧ (dstoreAll acc ps).length ≤ acc.length + ps.length := by
  induction ps with
  | nil => intro acc h1 h2; exact ⟨h1, h2, Nat.le_refl _⟩
  | cons p ps ih =>
    intro acc h1 h2
    obtain ⟨i, e⟩ := hp p List.mem_cons_self
    unfold dstoreAll
    have g1 : ∀ x ∈ (dstore acc p.1 p.2).map (·.1), ∃ i, x = .int i := fun x hx => by
      rcases dstore_keys _ _ _ _ hx with hx | hx
      · exact h1 x hx
      · exact ⟨i, hx.trans e⟩
    have g2 := dstore_nodup (kvs := acc) (k := p.1) (v := p.2) (fun x hx => by
      obtain ⟨j, ej⟩ := h1 x hx
      rw [ej, e]
      simp [PyData.eqv]) h2
    obtain ⟨a, b, c⟩ := ih (fun q hq => hp q (List.mem_cons_of_mem _ hq)) _ g1 g2
    have := dstore_len acc p.1 p.2
    exact ⟨a, b, by rw [List.length_cons]; omega⟩
theorem KVI.all {K : PySem.W.Frag} {F : Hp} : ∀ {ps : List (D × D)} {L : List (Int × Value)}, KVI K F ps L → ∀ {acc : List (D × D)} {M : List (Int × Value)}, KVI K F acc M → (acc.map (·.1)).Nodup → KVI K F (dstoreAll acc ps) (merged M L)
  | [], _, h, acc, M, g, _ => by cases h; exact g
  | p :: ps, _, h, acc, M, g, n => by
    cases h with
    | @cons _ q _ L h t =>
      obtain ⟨e, v, r1, r2⟩ := h
      unfold dstoreAll
      rw [e]
      have ik : ∀ x ∈ acc.map (·.1), ∃ i, x = .int i := by
        clear n
        unfold KVI at g
        induction g with
        | nil => intro x hx; cases hx
        | cons h t ih =>
          intro x hx
          rw [List.map_cons, List.mem_cons] at hx
          rcases hx with hx | hx
          · exact ⟨_, hx.trans h.1⟩
          · exact ih x hx
      have n' := dstore_nodup (kvs := acc) (k := .int q.1) (v := p.2) (fun x hx => by
        obtain ⟨j, ej⟩ := ik x hx
        rw [ej]
        simp [PyData.eqv]) n
      exact KVI.all t (g.store (g.nodup n) r1 r2) n'
section
variable {X : Cx} {C : Calls} {W : WX} {a b : Expr} {a' b' : IE} {pos p p2 pos2 : Pos}
/-- the pairs of two walks -/
theorem zip_kvi {K : PySem.W.Frag} {F : Hp} : ∀ {ns : List Int} {ys : List D} {xs vs : List V} {us ws : List Value}, Reps K F (ns.map PyData.int) xs → Reps K F ys vs → Vals xs us → Vals vs ws → KVI K F ((ns.map PyData.int).zip ys) (ns.zip ws)
  | [], _, _, _, _, _, _, _, _, _ => .nil
  | n :: ns, [], _, _, _, _, _, r2, _, s2 => by cases r2; cases s2; exact .nil
  | n :: ns, y :: ys, _, _, _, _, r1, r2, s1, s2 => by
    cases r1 with
    | cons r1 t1 =>
      cases r2 with
      | cons r2 t2 =>
        cases s1 with
        | cons s1 u1 =>
          cases s2 with
          | cons s2 u2 => exact .cons ⟨rfl, _, r2, s2⟩ (zip_kvi t1 t2 u1 u2)
theorem pe_dzp {fr : Bool} (hc : X.calm = true) (hg : Gl X "dict") (hm : X.mg "dict" = none) (hgz : Gl X "zip") (hmz : X.mg "zip" = none) (ha : PE X a (EV X C W false a')) (hb : PE X b (EV X C W false b'))
    (hs : starEach [a, b] X.env = (false, eval a X.env) :: starEach [b] X.env) (hs2 : starEach [b] X.env = (false, eval b X.env) :: starEach [] X.env) (hpl : (backTo pos2 (starEach [b] X.env)).any (·.1) = false)
    (na : starEach [.Call (.Name "zip" p2) [a, b] [] pos2] X.env = (false, eval (.Call (.Name "zip" p2) [a, b] [] pos2) X.env) :: starEach [] X.env) :
    PE X (.Call (.Name "dict" p) [.Call (.Name "zip" p2) [a, b] [] pos2] [] pos) (EV X C W fr (.dzip a' b')) := by
  refine ⟨fun pins s σ H Q I ⟨Z, F, env, r, h⟩ => ?_⟩
  simp only [ev] at h
  refine Call_ (ld_blt I hg hm boot_dict (PyProof.Rows.callWith_type1 (args_cons (Call_ (ld_blt I hgz hmz PyProof.Rows.boot_zip (PyProof.Rows.callWith_type1 (thn ((pa_cons ha (pa_cons hb pa_nil hs2) hs).run pos2 pins s σ H (fun vs H1 => ∃ F1 e2 x y v u, vs = [v, u] ∧ Same F F1 ∧ R X.K Z F1 e2 σ H1 ∧ Rep X.K F1 x v ∧ Rep X.K F1 y u ∧ Okr (ofO (dzipD x y) e2) (kP X.K fr Q Z F σ) (kX X.K W Z F σ)) I ?_) fun us s1 ⟨vs, H1, I1, r1, q1⟩ => ?_) hs hpl))) na) na))
  · refine two_v (k := kP X.K fr Q Z F σ) (R' := fun v u H2 => _) r (fun r m => match r with
      | .ok x e1 => match m e1 with
        | .ok y e2 => ofO (dzipD x y) e2
        | r => r
      | r => r) (fun x y e2 => ofO (dzipD x y) e2)
      (fun x e m => by simp only; cases m e <;> rfl) (fun _ _ _ => rfl) (fun _ => rfl) h fun x y e2 F2 H2 v u h s1 r1 q1 q2 => ⟨F2, e2, x, y, v, u, rfl, s1, r1, q1, q2, h⟩
  obtain ⟨F1, e2, x, y, v0, u0, rfl, sF, rr, qx, qy, h⟩ := q1
  obtain ⟨d, e3, h⟩ := okr_of h
  obtain ⟨xs, ex, e4⟩ := bind_none e3
  obtain ⟨ys, ey, e5⟩ := bind_none e4
  split at e5
  · rename_i hz
    have hz := of_decide_eq_true hz
    obtain ⟨ns, en, rfl⟩ := map_none e5
    have exs := ints?_eq en
    subst exs
    obtain ⟨k, aa, vs, rfl, sa, ra⟩ := qx.seq ex
    obtain ⟨l, bb, ws, rfl, sb, rb⟩ := qy.seq ey
    obtain ⟨u1, u2, rfl, ru, ru2⟩ := Vals.two r1
    cases ru
    cases ru2
    obtain ⟨us, rv, src⟩ := (sa.sqB rr.fh).read I1
    obtain ⟨wss, rw2, src2⟩ := (sb.sqB rr.fh).read I1
    have la := src.lt
    have lb := src2.lt
    refine zip_begins2 (begins_any k aa us) (begins_any l bb wss) src src2 fun h' hzz hTI hTO g1 g2 hsz hk => args_nil ?_
    have sep : ZipSep2 (s1.heap.objs.size + 4) (s1.heap.objs.size + 2) (s1.heap.objs.size + 3) s1.heap.objs.size (s1.heap.objs.size + 1) [s1.heap.objs.size, aa] [s1.heap.objs.size + 1, bb] :=
      zip_sep2 (fun c hc => by rw [List.mem_singleton.mp hc]; exact la) fun c hc => by rw [List.mem_singleton.mp hc]; exact lb
    have I2 : Inv X pins σ H1 { s1 with heap := h' } := I1.kept (t' := s1.toks) hk
    have hfp : ∀ c ∈ [s1.heap.objs.size + 4, s1.heap.objs.size + 3, s1.heap.objs.size, s1.heap.objs.size + 1], FpOk X pins H1 c := fun c hcm => by
      have le : s1.heap.objs.size ≤ c := by
        simp only [List.mem_cons, List.not_mem_nil, or_false] at hcm
        rcases hcm with z | z | z | z <;> (rw [z]; first | exact Nat.le_refl _ | exact Nat.le_add_right _ _)
      exact I1.fpOk le (I1.hok.fresh le)
    have kv := zip_kvi (K := X.K) ra rb rv rw2
    have hus : us.length = ns.length := by rw [← rv.length, ra.length, List.length_map]
    have hkl : (ns.zip wss).length = min us.length wss.length := by rw [List.length_zip, hus]
    refine call_dict_pairs (knd := PySem.intKind X.prog X.w) (kvs := ns.zip wss) (pair_zip X k l _ _ _ _ _ aa bb sep (Nat.ne_of_lt la) (Nat.ne_of_lt (Nat.lt_succ_of_lt lb)) us wss) (I1.ok.hd hc) ⟨hzz, hTI, ⟨_, _, hTO⟩, itB_new g1, itB_new g2, src.lay fun o e => hk _ o e, src2.lay fun o e => hk _ o e⟩
      ⟨hkl, fun i key v hr => ?_⟩ (by rw [sizeLine_eq]; rw [List.length_map] at hz; omega) fun h2 tk dd hk2 => ?_
    · obtain ⟨h1, h2⟩ := hr
      obtain ⟨xv, e6⟩ : ∃ xv, vs[i]? = some xv := by
        have hi : i < vs.length := by rw [rv.length]; exact (List.getElem?_eq_some_iff.mp h1).1
        exact ⟨_, List.getElem?_eq_getElem hi⟩
      obtain ⟨d, e7, q7⟩ := ra.getV e6
      obtain ⟨u, e8, q8⟩ := rv.get e6
      rw [h1] at e8
      cases e8
      rw [List.getElem?_map] at e7
      obtain ⟨n, e9, rfl⟩ := map_none e7
      cases q7
      obtain ⟨t, rfl⟩ := q8
      exact ⟨n, List.getElem?_zip_eq_some.mpr ⟨e9, h2⟩, by show (n == n) = true; exact beq_self_eq_true n⟩
    · obtain ⟨o, es, ep, ho, oc, od, ok, op, on⟩ := dd
      have st := kv.all (acc := []) (M := []) .nil List.nodup_nil
      obtain ⟨k1, k2, k3⟩ := dstoreAll_int (ps := (ns.map PyData.int).zip ys) (fun q hq => by
        obtain ⟨i, hi, e⟩ := List.mem_map.mp (List.of_mem_zip hq).1
        exact ⟨i, e.symm⟩) [] (fun x hx => nomatch hx) List.nodup_nil
      obtain ⟨ks', vs', e6, e7, e8⟩ := int_ent st op (fun e he => ok e (by simpa using he))
      have hT : s1.heap.objs.size ≤ h'.objs.size := by omega
      have new : ObjOk X.prog X.w (upd H1 h'.objs.size (.ext (objIs h'.objs.size o))) h2 h'.objs.size (.ext (objIs h'.objs.size o)) := ⟨ho, ⟨o, ho⟩, fun h1 h2 p k => k o p⟩
      have I3 := I2.turnedNew (t' := tk) (ch := [s1.heap.objs.size + 4, s1.heap.objs.size + 3, s1.heap.objs.size, s1.heap.objs.size + 1]) hk2 hfp (Nat.le_refl _) new
      have hd : (h'.objs.size == sysModules) = false := beq_eq_false_iff_ne.mpr (Ne.symm (Nat.ne_of_lt I2.big))
      refine ⟨.ref h'.objs.size, _, I3, rfl, ?_⟩
      have hp : H1 h'.objs.size = none := I2.hok.fresh (Nat.le_refl _)
      refine (out_of rr sF h).2.2.2 _ _ rfl hp ⟨ks', vs', ⟨hd, o, upd_same, ⟨oc, ⟨es, ep, od, e6⟩, k2, .inl fun x hx => ?_, ?_⟩⟩, e7, e8⟩
      · obtain ⟨i, rfl⟩ := k1 x hx
        exact ⟨keyN_int, rfl⟩
      · rw [List.length_map, sizeLine_eq]
        rw [List.length_zip, List.length_nil] at k3
        omega
  · cases e5
end

/-! "".join(xs) -/
theorem strs?_eq : ∀ {ds : List D} {zs : List Str}, strs? ds = some zs → ds = zs.map PyData.str
  | [], zs, h => by
    have e : zs = [] := by simpa [strs?] using h.symm
    rw [e]; rfl
  | .str i :: ds, ns, h => by
    cases q : strs? ds with
    | none => simp [strs?, q] at h
    | some ms =>
      have e : ns = i :: ms := by simpa [strs?, q] using h.symm
      rw [e, List.map_cons, strs?_eq q]
  | .none :: _, _, h => by simp [strs?] at h
  | .bool _ :: _, _, h => by simp [strs?] at h
  | .int _ :: _, _, h => by simp [strs?] at h
  | .list _ :: _, _, h => by simp [strs?] at h
  | .tuple _ :: _, _, h => by simp [strs?] at h
  | .dict _ :: _, _, h => by simp [strs?] at h
theorem Reps.ofStrs {K : PySem.W.Frag} {F : Hp} : ∀ {zs : List Str} {vs : List V}, Reps K F (zs.map PyData.str) vs → vs = zs.map V.str
  | [], _, h => by cases h; rfl
  | n :: ns, _, h => by
    cases h with
    | cons h r =>
      cases h
      rw [List.map_cons, Reps.ofStrs r]
theorem sum_len : ∀ zs : List Str, (∀ z ∈ zs, z.length ≤ 1000) → (zs.map (·.length)).sum ≤ zs.length * 1000
  | [], _ => by simp
  | z :: zs, hl => by
    have h1 := hl z List.mem_cons_self
    have h2 := sum_len zs fun y hy => hl y (List.mem_cons_of_mem _ hy)
    simp only [List.map_cons, List.sum_cons, List.length_cons]
    omega
theorem joinS_eq {s : Str} (h : s.cps.size = 0) : ∀ zs : List Str, Str.join s zs = ⟨(zs.flatMap fun z => z.cps.toList).toArray⟩
  | [] => rfl
  | [z] => by simp [Str.join]
  | z :: y :: zs => by
    have e : s.cps = #[] := Array.size_eq_zero_iff.mp h
    unfold Str.join
    rw [joinS_eq h (y :: zs)]
    show Str.append (Str.append z s) _ = _
    unfold Str.append
    rw [e]
    simp
section
variable {X : Cx} {C : Calls} {W : WX} {a : Expr} {a' : IE} {p apos cpos : Pos} {k : Nat}
theorem pe_jn {s : Str} (ha : PE X a (EV X C W false a')) (hs : starEach [a] X.env = [(false, eval a X.env)]) (hline : (apos.endLine == cpos.line) = true) :
    PE X (.Call (.Attribute (.Constant (.str s) k p) "join" apos) [a] [] cpos) (EV X C W false (.join s a')) := by
  refine PE.imp (pe_join pe_str ha hs rfl hline) fun σ H Q ⟨Z, F, env, r, h⟩ => ⟨⟨s, rfl⟩, ?_⟩
  refine one_v (k := kP X.K false Q Z F σ) r (fun r => match r with | .ok x e1 => ofO (joinD s x) e1 | r => r) (fun x e1 => ofO (joinD s x) e1) (fun _ _ => rfl) (fun _ _ => rfl) rfl (by simp only [ev] at h; exact h) fun x e1 F1 H1 v h s1 r1 q1 => ?_
  obtain ⟨d, e3, h⟩ := okr_of h
  obtain ⟨xs, e4, e5⟩ := bind_none e3
  split at e5
  · rename_i hc
    simp only [Bool.and_eq_true, decide_eq_true_eq] at hc
    obtain ⟨zs, e6, e7⟩ := bind_none e5
    split at e7
    · rename_i hz
      cases e7
      have ex := strs?_eq e6
      subst ex
      have hl : ∀ z ∈ zs, z.length ≤ 1000 := fun z hm => by
        have := List.all_eq_true.mp hz z hm
        exact of_decide_eq_true this
      have hsum := sum_len zs hl
      have hlen : zs.length ≤ 1000 := by have := hc.1; rwa [List.length_map] at this
      have hs0 : s.length = 0 := hc.2
      have fin : Q (.str (Txt.join s zs)) H1 := by
        rw [TL.join_eq, joinS_eq hc.2]
        exact h F1 H1 _ s1 r1 (by rw [Val.ff]; exact .str _)
      have hb : (zs.map (·.length)).sum + zs.length * s.length ≤ 16777216 := by rw [hs0]; omega
      rcases items_list e4 with rfl | rfl
      · cases q1 with
        | lst hl rr =>
          rw [rr.ofStrs] at hl
          exact ⟨s, _, zs, rfl, rfl, .inl (hl.mono r1.fh).sq, hb, fin⟩
      · cases q1 with
        | tup hl rr =>
          rw [rr.ofStrs] at hl
          exact ⟨s, _, zs, rfl, rfl, .inr (hl.mono r1.fh).sq, hb, fin⟩
    · cases e7
  · cases e5
end
end BT
namespace BT
open PySem PySem.Spec PyProof.Rows L2
/-! ## from the text to the small language -/
structure FI where
  x : Str
  key : String
  inout : Bool
  fresh : Bool
  n : Nat
structure CC where
  N : List Str
  sc : Scope
  fn : Str → Bool
  fs : List FI
  ks : List (Str × D)
abbrev Rec := CC → Expr → Option IE
def okNm (x : Str) : Bool := !(x == "__debug__") && !(x == "__classdict__")
def visB (c : CC) (x : Str) : Bool := match c.sc.names.lookup x with
  | some .local => true
  | some .cell => true
  | some .free => true
  | _ => false
def idx (c : CC) (x : Str) : Option Nat := if visB c x && okNm x && decide (c.N[c.N.idxOf x]? = some x) then some (c.N.idxOf x) else none
def gl (c : CC) (x : Str) : Bool := decide (c.sc.names.lookup x = some .globalImplicit) && okNm x
def stB (c : CC) (x : Str) : Bool := decide (c.sc.names.lookup x = some .local) || (decide (c.sc.names.lookup x = some .cell) && c.fn x)
def fi (c : CC) (x : Str) : Option FI := c.fs.find? fun q => decide (q.x = x)
def nst : Expr → Bool
  | .Starred .. => false
  | _ => true
def tOk : Expr → Bool
  | .IfExp .. => false
  | _ => true
def cK : Const → Option D
  | .none => some .none
  | .bool b => some (.bool b)
  | .int i => some (.int i)
  | .str s => some (.str s)
  | _ => none
/-- an operand: a place's own object is looked at, not taken -/
def cO (rec : Rec) (c : CC) (e : Expr) : Option IE := match e with
  | .Name x _ => match idx c x with
    | some i => some (.b i)
    | none => rec c e
  | _ => rec c e
def cEs (rec : Rec) (c : CC) : List Expr → Option IEs
  | [] => some .nil
  | e :: es => match rec c e, cEs rec c es with
    | some a, some as => some (.cons a as)
    | _, _ => none
def cName (c : CC) (x : Str) : Option IE := match idx c x with
  | some i => some (.v i)
  | none => if gl c x then (c.ks.lookup x).map .k else none
def cBO (rec : Rec) (c : CC) (op : BoolOp) : List Expr → Option IE
  | [] => none
  | [a] => if tOk a then rec c a else none
  | a :: b :: r => match tOk a, rec c a, cBO rec c op (b :: r) with
    | true, some a', some r' => some (match op with | .And => .and a' r' | .Or => .or a' r')
    | _, _, _ => none
def isNoneE : Expr → Bool
  | .Constant .none _ _ => true
  | _ => false
def cCmp1 (rec : Rec) (c : CC) (a : Expr) (op : CmpOp) (b : Expr) : Option IE :=
  if isNoneE b then (match op with
    | .Is => (cO rec c a).map .isN
    | .IsNot => (cO rec c a).map .notN
    | _ => none)
  else match cO rec c a, cO rec c b with
    | some a', some b' => some (.cmp op a' b')
    | _, _ => none
def prB (x : Str) : Option (Pr × String) :=
  if x = "len" then some (.len, "len") else if x = "abs" then some (.abs, "abs") else if x = "sum" then some (.sum, "sum") else if x = "all" then some (.all, "all") else if x = "any" then some (.any, "any")
  else if x = "min" then some (.min, "min") else if x = "max" then some (.max, "max") else if x = "sorted" then some (.sorted, "sorted") else none
def prT (x : Str) : Option (Pr × String) :=
  if x = "list" then some (.list, "list") else if x = "tuple" then some (.tuple, "tuple") else if x = "int" then some (.int, "int") else if x = "str" then some (.strI, "str") else none
def tyOf (x : Str) : Option Ty :=
  if x = "bool" then some .bool else if x = "int" then some .int else if x = "str" then some .str else if x = "list" then some .list else if x = "tuple" then some .tuple else none
def tyE1 (c : CC) : Expr → Option Ty
  | .Name x _ => if gl c x then tyOf x else none
  | _ => none
def tyEs (c : CC) : List Expr → Option (List Ty)
  | [] => some []
  | e :: es => match tyE1 c e, tyEs c es with
    | some t, some ts => some (t :: ts)
    | _, _ => none
def tyE (c : CC) (e : Expr) : Option (List Ty) := match e with
  | .Tuple es _ _ => tyEs c es
  | _ => (tyE1 c e).map fun t => [t]
/-- a call of one argument of a built-in -/
def cB1 (rec : Rec) (c : CC) (f : Str) (a : Expr) : Option IE :=
  match prB f with
  | some (p, _) => (match a with
    | .Call (.Name g _) [b] [] _ => if decide (g = "set") && gl c g then (match p, cO rec c b with
        | .len, some b' => some (.pr .lenset b')
        | .sorted, some b' => some (.pr .sortset b')
        | _, _ => none) else (cO rec c a).map (.pr p)
    | _ => (cO rec c a).map (.pr p))
  | none => match prT f with
    | some (p, _) => (match a with
      | .Call (.Name g _) as [] _ => if decide (g = "range") && gl c g then (match p, as with
          | .list, [n] => (rec c n).map .lrg
          | .tuple, [n] => (rec c n).map .trg
          | .list, [m, n] => match rec c m, rec c n with
            | some m', some n' => some (.lrg2 m' n')
            | _, _ => none
          | _, _ => none) else (cO rec c a).map (.pr p)
      | _ => (cO rec c a).map (.pr p))
    | none => if f = "dict" then (match a with
      | .Call (.Name g _) [a1, a2] [] _ => if decide (g = "zip") && gl c g then (match rec c a1, rec c a2 with
          | some a1', some a2' => some (.dzip a1' a2')
          | _, _ => none) else none
      | _ => none) else none
def cB2 (rec : Rec) (c : CC) (f : Str) (a b : Expr) : Option IE :=
  if f = "isinstance" then (match cO rec c a, tyE c b with
    | some a', some ts => if decide (ts.length ≤ 100) then some (.isi a' ts) else none
    | _, _ => none)
  else if f = "min" then (match rec c a, rec c b with
    | some a', some b' => some (.min2 a' b')
    | _, _ => none)
  else if f = "max" then (match rec c a, rec c b with
    | some a', some b' => some (.max2 a' b')
    | _, _ => none)
  else none
/-- a call to which a place's object is lent -/
def cBor (rec : Rec) (c : CC) (q : FI) (f : Str) (a : Expr) (rest : List Expr) : Option IE :=
  if decide (f = "_law_equal") && !q.fresh then (match a with
    | .Name x _ => match idx c x, cEs rec c rest with
      | some i, some as' => if decide (lenEs as' + 1 = q.n) then some (.callB q.key i as') else none
      | _, _ => none
    | _ => none) else none
def cCall (rec : Rec) (c : CC) (f : Str) (as : List Expr) : Option IE :=
  if gl c f then (match fi c f with
    | some q => (match as with
      | [] => none
      | a :: rest => if q.inout then (match a with
          | .Name x _ => match idx c x, cEs rec c rest with
            | some i, some as' => if decide (lenEs as' = q.n) then some (.callS q.key i as') else none
            | _, _ => none
          | _ => none)
        else match cBor rec c q f a rest with
          | some r => some r
          | none => match cEs rec c as with
            | some as' => if decide (lenEs as' = q.n) then some (if q.fresh then .callF q.key as' else .call q.key as') else none
            | none => none)
    | none => match as with
      | [a] => cB1 rec c f a
      | [a, b] => cB2 rec c f a b
      | _ => none)
  else none
def okBase : Expr → Bool
  | .Call (.Name _ _) [] [] _ => false
  | _ => true
def cGet (rec : Rec) (c : CC) (o : Expr) (as : List Expr) : Option IE :=
  if okBase o then (match cO rec c o, as with
    | some o', [k] => (rec c k).map (.get1 o')
    | some o', [k, d] => (match rec c k, rec c d with
      | some k', some d' => some (.get2 o' k' d')
      | _, _ => none)
    | _, _ => none) else none
def cMeth (rec : Rec) (c : CC) (o : Expr) (nm : Str) (as : List Expr) (apos cpos : Pos) : Option IE :=
  if apos.endLine == cpos.line then (if nm = "get" then cGet rec c o as else match o with
    | .Constant (.str s) _ _ => if nm = "join" then (match as with
        | [a] => (rec c a).map (.join s)
        | _ => none) else none
    | .Name x _ => if nm = "pop" then (match idx c x, as with
        | some i, [] => some (.pop i)
        | some i, [a] => (rec c a).map (.popI i)
        | _, _ => none)
      else if nm = "index" then (match cName c x, as with
        | some o', [a] => (rec c a).map (.index o')
        | _, _ => none)
      else none
    | _ => none) else none
def cSub (rec : Rec) (c : CC) (a s : Expr) : Option IE :=
  match cO rec c a with
  | none => none
  | some a' => match s with
    | .Slice none none (some (.UnaryOp .USub (.Constant (.int 1) _ _) _)) _ => some (.rev a')
    | .Slice none (some hi) none _ => (cO rec c hi).map (.slu a')
    | .Slice (some lo) none none _ => (cO rec c lo).map (.sll a')
    | .Slice (some lo) (some hi) none _ => match rec c lo, rec c hi with
      | some l, some h => some (.slb a' l h)
      | _, _ => none
    | i => (cO rec c i).map (.ix a')
def cT : Nat → CC → Expr → Option Tg
  | 0, _, _ => none
  | n + 1, c, e => match e with
    | .Name x _ => if stB c x then (idx c x).map .v else none
    | .Tuple [a, b] _ _ => match cT n c a, cT n c b with
      | some a', some b' => some (.p2 a' b')
      | _, _ => none
    | .Tuple [a, b, d] _ _ => match cT n c a, cT n c b, cT n c d with
      | some a', some b', some d' => some (.p3 a' b' d')
      | _, _, _ => none
    | _ => none
/-- what is walked; whether it gives pairs -/
def cIt (rec : Rec) (c : CC) (e : Expr) : Option (It × Bool) := match e with
  | .Call (.Name f _) as [] _ => if gl c f && decide (f = "range") then (match as with
      | [a] => (rec c a).map fun a' => (.r1 a', false)
      | [a, b] => match rec c a, rec c b with
        | some a', some b' => some (.r2 a' b', false)
        | _, _ => none
      | [a, b, d] => match rec c a, rec c b, rec c d with
        | some a', some b', some d' => some (.r3 a' b' d', false)
        | _, _, _ => none
      | _ => none)
    else if gl c f && decide (f = "enumerate") then (match as with
      | [a] => (rec c a).map fun a' => (.enum a', true)
      | _ => none)
    else if gl c f && decide (f = "zip") then (match as with
      | [a, b] => match rec c a, rec c b with
        | some a', some b' => some (.zip a' b', true)
        | _, _ => none
      | _ => none)
    else (rec c e).map fun a' => (.e a', false)
  | .Call (.Attribute o nm apos) [] [] cpos => if nm = "items" && (apos.endLine == cpos.line) && okBase o then (rec c o).map fun o' => (.items o', true) else (rec c e).map fun a' => (.e a', false)
  | _ => (rec c e).map fun a' => (.e a', false)
def ownOf (N : List Str) (scope : Scope) : List (Str × Nat) := scope.names.filterMap fun y => if (decide (y.2 = .local) || decide (y.2 = .cell)) && decide (y.1 ∈ N) then some (y.1, N.idxOf y.1) else none
def blkCC (c : CC) (scope : Scope) : CC := { c with sc := relS scope c.sc, fn := fun x => scope.names.lookup x == some .cell }
def cLc (rec : Rec) (c : CC) (elt tg iter : Expr) (ifs : List Expr) (scope : Scope) : Option IE :=
  if blkC c.N c.sc scope (ownOf c.N scope) then (match cIt rec c iter, cT 5 (blkCC c scope) tg, rec (blkCC c scope) elt with
    | some (it, pr), some t, some e' => if (!pr || isTp t) && tgIn t ((ownOf c.N scope).map (·.2)) then (match ifs with
        | [] => some (.lc ((ownOf c.N scope).map (·.2)) e' t it)
        | [d] => if tOk d then (rec (blkCC c scope) d).map fun d' => .lcf ((ownOf c.N scope).map (·.2)) e' t it d' else none
        | _ => none) else none
    | _, _, _ => none) else none
def stepE (rec : Rec) (c : CC) (e : Expr) : Option IE := match e with
  | .Constant k _ _ => (cK k).map .k
  | .Name x _ => cName c x
  | .BinOp a op b _ => match cO rec c a, cO rec c b with
    | some a', some b' => some (.bin op a' b')
    | _, _ => none
  | .UnaryOp .USub a _ => (rec c a).map .neg
  | .UnaryOp .Not a _ => if tOk a then (rec c a).map .not else none
  | .BoolOp op (a :: b :: r) _ => cBO rec c op (a :: b :: r)
  | .Compare a [op] [b] _ => cCmp1 rec c a op b
  | .Compare a [op, op'] [b, d] _ => match rec c a, rec c b, rec c d with
    | some a', some b', some d' => some (.cmp2 op op' a' b' d')
    | _, _, _ => none
  | .IfExp t a b _ => if tOk t then (match rec c t, rec c a, rec c b with
    | some t', some a', some b' => some (.ite t' a' b')
    | _, _, _ => none) else none
  | .Call (.Name f _) as [] _ => cCall rec c f as
  | .Call (.Attribute o nm apos) as [] cpos => cMeth rec c o nm as apos cpos
  | .Subscript a s _ => cSub rec c a s
  | .List es _ => match cEs rec c es with
    | some as => if decide (lenEs as ≤ 1000) then some (.lst as) else none
    | none => none
  | .Tuple es _ _ => match cEs rec c es with
    | some as => if decide (lenEs as ≤ 1000) then some (.tup as) else none
    | none => none
  | .ListComp elt [⟨tg, iter, ifs, 0⟩] scope _ => cLc rec c elt tg iter ifs scope
  | .Dict [] [] _ => some .dnew
  | .Dict [some k] [v] _ => match rec c k, rec c v with
    | some k', some v' => some (.dsp k' v')
    | _, _ => none
  | _ => none
def cE : Nat → Rec
  | 0 => fun _ _ => none
  | n + 1 => stepE (cE n)

/-! ### statements -/
def starB : Expr → Bool
  | .Starred .. => true
  | _ => false
def swNames (sc : Scope) (ts : List Expr) : List Str := ts.filterMap fun
  | .Name id pos => if sc.names.lookup id == some .local && pos.line == (ts.head?.map (·.pos.line)).getD 0 then some id else none
  | _ => none
/-- the swapped stores of several targets (none: the text does not say) -/
def swOf (sc : Scope) (ts vs : List Expr) : Option (Option (List Str)) :=
  if !(ts.length == 2 || ts.length == 3) || vs.length != ts.length then some none
  else if vs.any starB then some none
  else if (swNames sc ts).length != ts.length || (swNames sc ts).eraseDups.length != (swNames sc ts).length then some none
  else if vs.all (foldedForSure 8) then some none
  else if vs.all (constantsAlone 8) then none
  else some (some (swNames sc ts))
def isComp : Expr → Bool
  | .ListComp .. => true
  | .SetComp .. => true
  | .DictComp .. => true
  | _ => false
def isTupE : Expr → Bool
  | .Tuple .. => true
  | _ => false
def nmIx (c : CC) (e : Expr) : Option (Str × Nat) := match e with
  | .Name x _ => if stB c x then (idx c x).map fun i => (x, i) else none
  | _ => none
abbrev RecS := CC → List Stmt → Option ISs
def cAsg (n : Nat) (c : CC) (tg v : Expr) : Option IS := match tg with
  | .Name x _ => match nmIx c tg, cE n c v with
    | some (_, i), some v' => some (.asg i v')
    | _, _ => none
  | .Subscript (.Name x _) ix _ => if isComp v then none else (match idx c x, cE n c ix, cE n c v with
    | some i, some x', some v' => some (.setI i x' v')
    | _, _, _ => none)
  | .Tuple ts _ _ => (match v with
    | .Tuple vs _ _ => match ts, vs with
      | [t1, t2], [v1, v2] => match nmIx c t1, nmIx c t2, cE n c v1, cE n c v2, swOf c.sc ts vs with
        | some (_, i), some (_, j), some a, some b, some _ => if decide (i ≠ j) then some (.asg2 i j a b) else none
        | _, _, _, _, _ => none
      | [t1, t2, t3], [v1, v2, v3] => match nmIx c t1, nmIx c t2, nmIx c t3, cE n c v1, cE n c v2, cE n c v3, swOf c.sc ts vs with
        | some (_, i), some (_, j), some (_, l), some a, some b, some d, some _ => if decide (i ≠ j ∧ i ≠ l ∧ j ≠ l) then some (.asg3 i j l a b d) else none
        | _, _, _, _, _, _, _ => none
      | _, _ => none
    | _ => if isComp v then none else (match cT 5 c tg, cE n c v with
      | some t, some v' => some (.asgT t v')
      | _, _ => none))
  | _ => none
def cRet (n : Nat) (c : CC) (fresh : Bool) (e : Expr) : Option IS :=
  if fresh then (match e with
    | .Name x _ => (idx c x).map .retO
    | _ => (cE n c e).map .retF)
  else (cE n c e).map .ret
def cEx (n : Nat) (c : CC) (e : Expr) : Option IS := match e with
  | .Call (.Attribute (.Name x _) nm apos) [b] [] cpos => if nm = "append" then (if apos.endLine == cpos.line then (match idx c x, cE n c b with
      | some i, some b' => some (.app i b')
      | _, _ => none) else none) else (cE n c e).map .ex
  | _ => if isComp e then none else (cE n c e).map .ex
def stepS (rec : RecS) (n : Nat) (fresh : Bool) (c : CC) (s : Stmt) : Option IS := match s with
  | .Pass _ => some .pass
  | .Return (some e) _ => cRet n c fresh e
  | .Assign [tg] v _ => cAsg n c tg v
  | .AugAssign (.Name x _) op v _ => if stB c x then (match idx c x, cE n c v with
    | some i, some v' => some (.aug i op v')
    | _, _ => none) else none
  | .Expr e _ => cEx n c e
  | .If t a b _ => if tOk t then (match cE n c t, rec c a, rec c b with
    | some t', some a', some b' => some (.if_ t' a' b')
    | _, _, _ => none) else none
  | .For tg it body [] _ => match cIt (cE n) c it, cT 5 c tg, rec c body with
    | some (it', pr), some t, some b' => if !pr || isTp t then some (.for_ t it' b') else none
    | _, _, _ => none
  | .While t body [] _ => if tOk t then (match cE n c t, rec c body with
    | some t', some b' => some (.while_ t' b')
    | _, _ => none) else none
  | .Raise _ _ _ => some (.raise "E")
  | _ => none
def cL (rec : RecS) (n : Nat) (fresh : Bool) (c : CC) : List Stmt → Option ISs
  | [] => some .nil
  | s :: ss => match stepS rec n fresh c s, cL rec n fresh c ss with
    | some a, some as => some (.cons a as)
    | _, _ => none
def cS : Nat → Nat → Bool → RecS
  | 0, _, _ => fun _ _ => none
  | m + 1, n, fresh => cL (cS m n fresh) n fresh
end BT
namespace BT
open PySem PySem.Spec PyProof.Rows L2
def bnl : List Str := ["len", "abs", "sum", "all", "any", "min", "max", "sorted", "list", "tuple", "int", "bool", "str", "isinstance", "range", "enumerate", "zip", "set", "dict"]
/-- what the proofs need of a context -/
structure Good (X : Cx) (c : CC) (C : Calls) (W : WX) (cx : CXT) (cv : String → Value) : Prop where
  N : X.N = c.N
  nd : c.N.Nodup
  calm : X.calm = true
  sc : X.env.scope = c.sc
  kind : c.sc.kind = .function
  fn : ∀ x, c.fn x = true → X.fn x = true
  un : X.A.units + 64 < cLine
  bt : ∀ x ∈ bnl, X.mg x = none
  ks : ∀ x d, c.ks.lookup x = some d → isL d = false ∧ ∃ u v, X.mg x = some u ∧ RelV v u ∧ ∀ F, Rep X.K F d v
  fs : ∀ q ∈ c.fs, FnAt X cx cv W C q.x q.key q.inout q.fresh q.n
  px : Passes cx X (xk cv W)
  pb : ∀ X' : Cx, X'.prog = X.prog → X'.w = X.w → Passes cx X' (xk cv W0)
section
variable {X : Cx} {c : CC} {C : Calls} {W : WX} {cx : CXT} {cv : String → Value}
theorem okNm_iff {x : Str} (h : okNm x = true) : (x == ("__debug__" : Str)) = false ∧ (x == ("__classdict__" : Str)) = false := by
  unfold okNm at h
  simpa using h
theorem idx_some {x : Str} {i : Nat} (h : idx c x = some i) : visB c x = true ∧ okNm x = true ∧ c.N[i]? = some x := by
  unfold idx at h
  split at h
  · rename_i hc
    cases h
    simp only [Bool.and_eq_true, decide_eq_true_eq] at hc
    exact ⟨hc.1.1, hc.1.2, hc.2⟩
  · cases h
theorem visB_iff {x : Str} (h : visB c x = true) : Vis c.sc x := by
  unfold visB at h
  split at h
  · rename_i e; exact .inl e
  · rename_i e; exact .inr (.inl e)
  · rename_i e; exact .inr (.inr e)
  · cases h
theorem Good.var (g : Good X c C W cx cv) {x : Str} {i : Nat} {pos : Pos} (h : idx c x = some i) : PE X (.Name x pos) (tVar i) := by
  obtain ⟨h1, h2, h3⟩ := idx_some h
  obtain ⟨k1, k2⟩ := okNm_iff h2
  exact pe_var (by rw [g.N]; exact h3) (by rw [g.sc]; exact visB_iff h1) k1 k2
theorem gl_iff {x : Str} (h : gl c x = true) : c.sc.names.lookup x = some .globalImplicit ∧ (x == ("__debug__" : Str)) = false := by
  unfold gl at h
  rw [Bool.and_eq_true] at h
  exact ⟨of_decide_eq_true h.1, (okNm_iff h.2).1⟩
theorem Good.gl (g : Good X c C W cx cv) {x : Str} (h : gl c x = true) : Gl X x ∧ (x == ("__debug__" : Str)) = false := by
  obtain ⟨h1, h2⟩ := gl_iff h
  exact ⟨by unfold Gl Env.kindOf; rw [g.sc]; exact h1, h2⟩
theorem Good.name (g : Good X c C W cx cv) {x : Str} {i : Nat} {pos : Pos} (h : idx c x = some i) (hs : stB c x = true) : PG X (.Name x pos) (gName i) ∧ X.N[i]? = some x ∧ Loc X.env.scope x ∧ (X.fn x = true ∨ X.env.scope.names.lookup x = some .local) := by
  obtain ⟨h1, h2, h3⟩ := idx_some h
  have hn : X.N[i]? = some x := by rw [g.N]; exact h3
  have hl : Loc X.env.scope x ∧ (X.fn x = true ∨ X.env.scope.names.lookup x = some .local) := by
    unfold stB at hs
    rw [Bool.or_eq_true, Bool.and_eq_true, decide_eq_true_eq, decide_eq_true_eq] at hs
    rw [g.sc]
    rcases hs with e | ⟨e, f⟩
    · exact ⟨.inl e, .inr e⟩
    · exact ⟨.inr e, .inl (g.fn x f)⟩
  exact ⟨pg_name (by rw [g.N]; exact g.nd) hn hl.1 hl.2, hn, hl⟩
theorem star_of {e : Expr} {es : List Expr} {env : PySem.Env} (h : nst e = true) : starEach (e :: es) env = (false, eval e env) :: starEach es env := by
  cases e <;> first | rfl | cases h
theorem back_of {es : List Expr} {env : PySem.Env} {pos : Pos} (h : ∀ e ∈ es, nst e = true) : (backTo pos (starEach es env)).any (·.1) = false := by
  induction es with
  | nil => rfl
  | cons e es ih =>
    rw [star_of (h e (List.mem_cons_self ..))]
    show (false || (backTo pos (starEach es env)).any (·.1)) = false
    rw [ih fun x hx => h x (List.mem_cons_of_mem _ hx)]
    rfl
theorem asg_of {e : Expr} {es : List Expr} {env : PySem.Env} (h : nst e = true) : (assignEach (e :: es) env).map (·.2) = assign e env :: (assignEach es env).map (·.2) ∧ (assignEach (e :: es) env).length = (assignEach es env).length + 1 ∧ ((assignEach es env).findIdx? (·.1) = none → (assignEach (e :: es) env).findIdx? (·.1) = none) := by
  cases e <;> first | exact ⟨rfl, rfl, fun q => by simp only [assignEach, List.findIdx?_cons, q]; rfl⟩ | cases h
theorem few_one {b : Expr} {env : PySem.Env} {cpos : Pos} (h : nst b = true) : ((backTo cpos (starEach [b] env)).all (fun x => !x.1) && (backToKw cpos (keywordEach [] env)).all (fun x => x.1.isSome)
      && decide ([b].length + ([] : List Keyword).length + (if ([] : List Keyword).isEmpty then 0 else 1) < 30)) = true := by
  rw [star_of h]
  rfl
structure Bun (X : Cx) (C : Calls) (W : WX) (e : Expr) (e' : IE) : Prop where
  st : nst e = true
  pe : ∀ fr, (fr = true → freshE e' = true) → PE X e (EV X C W fr e')
  pt : tOk e = true → PT X e (ET X C W e')
  ns : isB e' = false
theorem Bun.v {e : Expr} {e' : IE} (b : Bun X C W e e') : PE X e (EV X C W false e') := b.pe false fun h => by cases h
/-- a value that is never a new list -/
theorem Bun.of {e : Expr} {e' : IE} (h1 : nst e = true) (h2 : freshE e' = false) (h3 : isB e' = false) (h4 : PE X e (EV X C W false e')) (h5 : tOk e = true → PT X e (ET X C W e')) : Bun X C W e e' :=
  ⟨h1, fun fr h => by
    cases fr with
    | false => exact h4
    | true => rw [h2] at h; exact absurd (h rfl) Bool.false_ne_true, h5, h3⟩
theorem Bun.val {e : Expr} {e' : IE} (h1 : nst e = true) (h3 : isB e' = false) (h4 : ∀ fr, PE X e (EV X C W fr e')) (he : ∀ whole, isTrue e X.env whole = (do let v ← whole; standAt e.pos; holding [v] (truthy v))) : Bun X C W e e' :=
  ⟨h1, fun fr _ => h4 fr, fun _ => pt_vl (h4 false) he, h3⟩
/-- the recursion's promise -/
def RecOk (rec : Rec) (cx : CXT) (cv : String → Value) : Prop := ∀ (X : Cx) (c : CC) (C : Calls) (W : WX) (e : Expr) (e' : IE), Good X c C W cx cv → rec c e = some e' → Bun X C W e e'
variable {rec : Rec} {a b d e : Expr} {a' b' d' e' : IE} {pos p : Pos}
theorem cName_ok (g : Good X c C W cx cv) {x : Str} (h : cName c x = some e') : Bun X C W (.Name x pos) e' := by
  unfold cName at h
  split at h
  · rename_i i hi
    cases h
    exact .of rfl rfl rfl (pe_v (g.var hi)) fun _ => pt_vl (pe_v (g.var hi)) fun _ => rfl
  · split at h
    · rename_i hgl
      obtain ⟨hg, hd⟩ := g.gl hgl
      obtain ⟨d, h1, rfl⟩ := map_none h
      obtain ⟨hn, u, v, hm, rv, rp⟩ := g.ks x d h1
      have q : PE X (.Name x pos) (tC v) := ⟨fun pins s σ H Q I h => ld_glob I hg hm ⟨v, H, I, rv, h⟩ hd⟩
      exact .of rfl rfl rfl (pe_k q rp hn) fun _ => pt_vl (pe_k q rp hn) fun _ => rfl
    · cases h
structure OpB (X : Cx) (C : Calls) (W : WX) (e : Expr) (e' : IE) : Prop where
  st : nst e = true
  po : PE X e (EO X C W e')
theorem cO_ok (hr : RecOk rec cx cv) (g : Good X c C W cx cv) (h : cO rec c e = some e') : OpB X C W e e' := by
  have old : rec c e = some e' → OpB X C W e e' := fun q => ⟨(hr X c C W e e' g q).st, pe_o (hr X c C W e e' g q).v (hr X c C W e e' g q).ns⟩
  unfold cO at h
  split at h
  · rename_i x p
    split at h
    · rename_i i hi
      cases h
      exact ⟨rfl, pe_b (g.var hi)⟩
    · exact old h
  · exact old h
theorem cEs_ok (hr : RecOk rec cx cv) (g : Good X c C W cx cv) : ∀ {es : List Expr} {as : IEs}, cEs rec c es = some as → PA X es (EA X C W as) ∧ ∀ e ∈ es, nst e = true
  | [], as, h => by
    cases h
    exact ⟨pa_n, fun _ h => nomatch h⟩
  | e :: es, as, h => by
    unfold cEs at h
    split at h
    · rename_i a' as' h1 h2
      cases h
      have b := hr X c C W e a' g h1
      obtain ⟨q1, q2⟩ := cEs_ok hr g h2
      exact ⟨pa_c b.v q1 (star_of b.st), fun x hx => by
        rcases List.mem_cons.mp hx with rfl | hx
        · exact b.st
        · exact q2 x hx⟩
    · cases h
theorem cBO_ok (hr : RecOk rec cx cv) (g : Good X c C W cx cv) (op : BoolOp) : ∀ {vs : List Expr} {e' : IE}, cBO rec c op vs = some e' → isB e' = false ∧ PE X (.BoolOp op vs pos) (EV X C W false e') ∧ PW X (.BoolOp op vs pos) (ET X C W e')
  | [], _, h => by cases h
  | [a], e', h => by
    unfold cBO at h
    split at h
    · rename_i ht
      have b := hr X c C W a e' g h
      refine ⟨b.ns, pe_one b.v, ?_⟩
      cases op with
      | And => exact pw_and1 (b.pt ht)
      | Or => exact pw_or1 (b.pt ht)
    · cases h
  | a :: b :: r, e', h => by
    unfold cBO at h
    split at h
    · rename_i a' r' ht h1 h2
      cases h
      have ba := hr X c C W a a' g h1
      obtain ⟨q1, q2, q3⟩ := cBO_ok hr g op h2
      cases op with
      | And => exact ⟨rfl, pe_an ba.v q2, pw_an (ba.pt ht) q3⟩
      | Or => exact ⟨rfl, pe_r ba.v q2, pw_r (ba.pt ht) q3⟩
    · cases h
theorem cBO_fr {op : BoolOp} {r : List Expr} (h : cBO rec c op (a :: b :: r) = some e') : freshE e' = false := by
  unfold cBO at h
  split at h
  · cases h
    cases op <;> rfl
  · cases h
theorem set_of {op : CmpOp} (h : OpB X C W b b') (n : ∀ es k p, b ≠ .Set es k p) : behindInMarks op b = false := by
  unfold behindInMarks
  split
  · exact absurd rfl (n _ _ _)
  · rfl
def isSetE : Expr → Bool
  | .Set .. => true
  | _ => false
def isSlE : Expr → Bool
  | .Slice .. => true
  | _ => false
/-- what is never compiled -/
def RecNo (rec : Rec) : Prop := ∀ c e e', rec c e = some e' → isSetE e = false ∧ isSlE e = false
theorem cO_no (hn : RecNo rec) (h : cO rec c e = some e') : isSetE e = false ∧ isSlE e = false := by
  unfold cO at h
  split at h
  · exact ⟨rfl, rfl⟩
  · exact hn _ _ _ h
theorem marks_of {op : CmpOp} (h : isSetE b = false) : behindInMarks op b = false := by
  cases b <;> first | rfl | cases h
theorem noneE_iff (h : isNoneE b = true) : ∃ k p, b = .Constant .none k p := by
  unfold isNoneE at h
  split at h
  · exact ⟨_, _, rfl⟩
  · cases h
theorem cCmp1_ok (hr : RecOk rec cx cv) (hn : RecNo rec) (g : Good X c C W cx cv) {op : CmpOp} (h : cCmp1 rec c a op b = some e') : Bun X C W (.Compare a [op] [b] pos) e' := by
  unfold cCmp1 at h
  split at h
  · rename_i hb
    obtain ⟨k, p, rfl⟩ := noneE_iff hb
    split at h
    · obtain ⟨a', h1, rfl⟩ := map_none h
      have o := cO_ok hr g h1
      exact .of rfl rfl rfl (pe_isn o.po) fun _ => pt_isn o.po
    · obtain ⟨a', h1, rfl⟩ := map_none h
      have o := cO_ok hr g h1
      exact .of rfl rfl rfl (pe_notn o.po) fun _ => pt_notn o.po
    · cases h
  · split at h
    · rename_i a' b' h1 h2
      cases h
      have o1 := cO_ok hr g h1
      have o2 := cO_ok hr g h2
      have m := marks_of (op := op) (cO_no hn h2).1
      exact .of rfl rfl rfl (pe_cm g.un m o1.po o2.po) fun _ => pt_cm g.un m o1.po o2.po
    · cases h
theorem Good.nob (g : Good X c C W cx cv) {x : Str} (h : x ∈ bnl) : X.mg x = none := g.bt x h
theorem prB_ok {x : Str} {q : Pr × String} (h : prB x = some q) (hc : X.calm = true) (hu : X.A.units + 64 < cLine) : CallR X (.builtin q.2) (rPr X.K q.1) ∧ bootBuiltins x = some (.builtin q.2) ∧ x ≠ "__name__" ∧ x ∈ bnl := by
  unfold prB at h
  split at h
  · rename_i e; cases h; rw [e]; exact ⟨pr_len, boot_len, by decide +kernel, by decide +kernel⟩
  ·
    split at h
    · rename_i e; cases h; rw [e]; exact ⟨pr_abs, boot_abs, by decide +kernel, by decide +kernel⟩
    ·
      split at h
      · rename_i e; cases h; rw [e]; exact ⟨pr_sum hc, boot_sum, by decide +kernel, by decide +kernel⟩
      ·
        split at h
        · rename_i e; cases h; rw [e]; exact ⟨pr_all hc, boot_all, by decide +kernel, by decide +kernel⟩
        ·
          split at h
          · rename_i e; cases h; rw [e]; exact ⟨pr_any hc, boot_any, by decide +kernel, by decide +kernel⟩
          ·
            split at h
            · rename_i e; cases h; rw [e]; exact ⟨pr_min hc hu, boot_min, by decide +kernel, by decide +kernel⟩
            ·
              split at h
              · rename_i e; cases h; rw [e]; exact ⟨pr_max hc hu, boot_max, by decide +kernel, by decide +kernel⟩
              ·
                split at h
                · rename_i e; cases h; rw [e]; exact ⟨pr_sorted hu, boot_sorted, by decide +kernel, by decide +kernel⟩
                ·
                  cases h
theorem prT_ok {x : Str} {q : Pr × String} (h : prT x = some q) : CallR X (.type q.2) (rPr X.K q.1) ∧ bootBuiltins x = some (.type q.2) ∧ x ≠ "__name__" ∧ x ∈ bnl := by
  unfold prT at h
  split at h
  · rename_i e; cases h; rw [e]; exact ⟨pr_list, boot_list, by decide +kernel, by decide +kernel⟩
  ·
    split at h
    · rename_i e; cases h; rw [e]; exact ⟨pr_tuple, boot_tuple, by decide +kernel, by decide +kernel⟩
    ·
      split at h
      · rename_i e; cases h; rw [e]; exact ⟨pr_int, boot_int, by decide +kernel, by decide +kernel⟩
      ·
        split at h
        · rename_i e; cases h; rw [e]; exact ⟨pr_strI, boot_str, by decide +kernel, by decide +kernel⟩
        ·
          cases h
theorem tyOf_ok {x : Str} {t : Ty} (h : tyOf x = some t) : bootBuiltins x = some (.type (tyS t)) ∧ x ≠ "__name__" ∧ x ∈ bnl := by
  unfold tyOf at h
  split at h
  · rename_i e; cases h; rw [e]; exact ⟨boot_bool, by decide +kernel, by decide +kernel⟩
  ·
    split at h
    · rename_i e; cases h; rw [e]; exact ⟨boot_int, by decide +kernel, by decide +kernel⟩
    ·
      split at h
      · rename_i e; cases h; rw [e]; exact ⟨boot_str, by decide +kernel, by decide +kernel⟩
      ·
        split at h
        · rename_i e; cases h; rw [e]; exact ⟨boot_list, by decide +kernel, by decide +kernel⟩
        ·
          split at h
          · rename_i e; cases h; rw [e]; exact ⟨boot_tuple, by decide +kernel, by decide +kernel⟩
          ·
            cases h
theorem tyE1_ok (g : Good X c C W cx cv) {t : Ty} (h : tyE1 c e = some t) : PE X e (fun _ H Q => Q (.ty (tyS t)) H) ∧ nst e = true := by
  unfold tyE1 at h
  split at h
  · split at h
    · rename_i hgl
      obtain ⟨hg, hd⟩ := g.gl hgl
      obtain ⟨h1, h2, h3⟩ := tyOf_ok h
      exact ⟨⟨fun pins s σ H Q I q => ld_blt I hg (g.nob h3) h1 ⟨.ty _, H, I, rfl, q⟩ h2 hd⟩, rfl⟩
    · cases h
  · cases h
theorem tyEs_ok (g : Good X c C W cx cv) : ∀ {es : List Expr} {ts : List Ty}, tyEs c es = some ts → PA X es (fun _ H Q => Q (ts.map fun t => V.ty (tyS t)) H)
  | [], ts, h => by
    cases h
    exact PA.imp pa_nil fun _ _ _ q => q
  | e :: es, ts, h => by
    unfold tyEs at h
    split at h
    · rename_i t ts' h1 h2
      cases h
      obtain ⟨q1, q2⟩ := tyE1_ok g h1
      exact PA.imp (pa_cons q1 (tyEs_ok g h2) (star_of q2)) fun _ _ _ q => q
    · cases h
theorem tyE_ok (g : Good X c C W cx cv) {ts : List Ty} (h : tyE c e = some ts) (hl : ts.length ≤ 100) : TyE X e ts ∧ nst e = true := by
  unfold tyE at h
  split at h
  · refine ⟨⟨_, pe_tup (tyEs_ok g h), fun σ H Q q => ⟨by rw [List.length_map]; exact Nat.le_trans hl (by decide), fun p hp => q _ _ (.inr ⟨p, rfl, hp, rfl⟩)⟩⟩, rfl⟩
  · obtain ⟨t, h1, rfl⟩ := map_none h
    obtain ⟨q1, q2⟩ := tyE1_ok g h1
    exact ⟨⟨_, q1, fun σ H Q q => q _ _ (.inl ⟨t, rfl, rfl, rfl⟩)⟩, q2⟩
end
end BT
namespace BT
open PySem PySem.Spec PyProof.Rows L2
section
variable {X : Cx} {c : CC} {C : Calls} {W : WX} {cx : CXT} {cv : String → Value}
variable {rec : Rec} {a b d e : Expr} {a' b' d' e' : IE} {pos p : Pos}
theorem bn_len : ("len" : Str) ∈ bnl := by decide +kernel
theorem bn_sorted : ("sorted" : Str) ∈ bnl := by decide +kernel
theorem bn_set : ("set" : Str) ∈ bnl := by decide +kernel
theorem bn_range : ("range" : Str) ∈ bnl := by decide +kernel
theorem bn_list : ("list" : Str) ∈ bnl := by decide +kernel
theorem bn_tuple : ("tuple" : Str) ∈ bnl := by decide +kernel
theorem bn_min : ("min" : Str) ∈ bnl := by decide +kernel
theorem bn_max : ("max" : Str) ∈ bnl := by decide +kernel
theorem bn_isi : ("isinstance" : Str) ∈ bnl := by decide +kernel
theorem bn_en : ("enumerate" : Str) ∈ bnl := by decide +kernel
theorem bn_dict : ("dict" : Str) ∈ bnl := by decide +kernel
theorem bn_zip : ("zip" : Str) ∈ bnl := by decide +kernel
theorem star0 {e : Expr} {env : PySem.Env} (h : nst e = true) : starEach [e] env = [(false, eval e env)] := star_of h
theorem one_B (hr : RecOk rec cx cv) (g : Good X c C W cx cv) {f : Str} {pr : Pr × String} (hp : prB f = some pr) (hgl : gl c f = true) (h : (cO rec c a).map (IE.pr pr.1) = some e') : Bun X C W (.Call (.Name f p) [a] [] pos) e' := by
  obtain ⟨hg, hd⟩ := g.gl hgl
  obtain ⟨h1, h2, h3, h4⟩ := prB_ok (X := X) hp g.calm g.un
  obtain ⟨a', ha, rfl⟩ := map_none h
  have o := cO_ok hr g ha
  exact .val rfl rfl (fun fr => pe_prB h1 hg (g.nob h4) h2 o.po h3 hd (star_of o.st)) fun _ => rfl
theorem one_T (hr : RecOk rec cx cv) (g : Good X c C W cx cv) {f : Str} {pr : Pr × String} (hp : prT f = some pr) (hgl : gl c f = true) (h : (cO rec c a).map (IE.pr pr.1) = some e') : Bun X C W (.Call (.Name f p) [a] [] pos) e' := by
  obtain ⟨hg, hd⟩ := g.gl hgl
  obtain ⟨h1, h2, h3, h4⟩ := prT_ok (X := X) hp
  obtain ⟨a', ha, rfl⟩ := map_none h
  have o := cO_ok hr g ha
  exact .val rfl rfl (fun fr => pe_prT h1 hg (g.nob h4) h2 o.po h3 hd (star_of o.st)) fun _ => rfl
theorem prB_name {f : Str} {s : String} : ∀ {pr : Pr}, prB f = some (pr, s) → (pr = .len → f = "len") ∧ (pr = .sorted → f = "sorted") := by
  intro pr h
  unfold prB at h
  split at h
  · rename_i e; cases h; exact ⟨fun _ => e, nofun⟩
  · split at h
    · cases h; exact ⟨nofun, nofun⟩
    · split at h
      · cases h; exact ⟨nofun, nofun⟩
      · split at h
        · cases h; exact ⟨nofun, nofun⟩
        · split at h
          · cases h; exact ⟨nofun, nofun⟩
          · split at h
            · cases h; exact ⟨nofun, nofun⟩
            · split at h
              · cases h; exact ⟨nofun, nofun⟩
              · split at h
                · rename_i e; cases h; exact ⟨nofun, fun _ => e⟩
                · cases h
theorem prT_name {f : Str} {s : String} : ∀ {pr : Pr}, prT f = some (pr, s) → (pr = .list → f = "list") ∧ (pr = .tuple → f = "tuple") := by
  intro pr h
  unfold prT at h
  split at h
  · rename_i e; cases h; exact ⟨fun _ => e, nofun⟩
  · split at h
    · rename_i e; cases h; exact ⟨nofun, fun _ => e⟩
    · split at h
      · cases h; exact ⟨nofun, nofun⟩
      · split at h
        · cases h; exact ⟨nofun, nofun⟩
        · cases h
theorem cB1_ok (hr : RecOk rec cx cv) (g : Good X c C W cx cv) {f : Str} (hgl : gl c f = true) (h : cB1 rec c f a = some e') : Bun X C W (.Call (.Name f p) [a] [] pos) e' := by
  obtain ⟨hg, hd⟩ := g.gl hgl
  unfold cB1 at h
  split at h
  · rename_i pr s hp
    obtain ⟨n1, n2⟩ := prB_name hp
    split at h
    · rename_i gn gp b bp
      split at h
      · rename_i hs
        rw [Bool.and_eq_true, decide_eq_true_eq] at hs
        obtain ⟨rfl, hgs⟩ := hs
        obtain ⟨hg2, hd2⟩ := g.gl hgs
        split at h
        · rename_i b' hb
          cases h
          have o := cO_ok hr g hb
          have ef := n1 rfl
          subst ef
          exact .val rfl rfl (fun fr => pe_lenset g.calm hg (g.nob bn_len) hg2 (g.nob bn_set) o.po (star_of o.st)) fun _ => rfl
        · rename_i b' hb
          cases h
          have o := cO_ok hr g hb
          have ef := n2 rfl
          subst ef
          exact .val rfl rfl (fun fr => pe_sortset g.calm hg (g.nob bn_sorted) hg2 (g.nob bn_set) o.po (star_of o.st)) fun _ => rfl
        · cases h
      · exact one_B hr g hp hgl h
    · exact one_B hr g hp hgl h
  · split at h
    · rename_i pr s hp
      obtain ⟨n1, n2⟩ := prT_name hp
      split at h
      · rename_i gn gp as bp
        split at h
        · rename_i hs
          rw [Bool.and_eq_true, decide_eq_true_eq] at hs
          obtain ⟨rfl, hgs⟩ := hs
          obtain ⟨hg2, hd2⟩ := g.gl hgs
          split at h
          · rename_i n
            obtain ⟨n', hn, rfl⟩ := map_none h
            have o := hr X c C W n n' g hn
            have ef := n1 rfl
            subst ef
            exact .val rfl rfl (fun fr => pe_lrg g.calm hg (g.nob bn_list) hg2 (g.nob bn_range) o.v (star_of o.st) (star_of rfl)) fun _ => rfl
          · rename_i n
            obtain ⟨n', hn, rfl⟩ := map_none h
            have o := hr X c C W n n' g hn
            have ef := n2 rfl
            subst ef
            exact .of rfl rfl rfl (pe_trg g.calm hg (g.nob bn_tuple) hg2 (g.nob bn_range) o.v (star_of o.st) (star_of rfl)) fun _ => pt_vl (pe_trg g.calm hg (g.nob bn_tuple) hg2 (g.nob bn_range) o.v (star_of o.st) (star_of rfl)) fun _ => rfl
          · rename_i m n
            split at h
            · rename_i m' n' hm hn
              cases h
              have o := hr X c C W m m' g hm
              have o2 := hr X c C W n n' g hn
              have ef := n1 rfl
              subst ef
              exact .val rfl rfl (fun fr => pe_lrg2 g.calm hg (g.nob bn_list) hg2 (g.nob bn_range) o.v o2.v (star_of o.st) (star_of o2.st) (back_of fun x hx => by rw [List.mem_singleton.mp hx]; exact o2.st) (star_of rfl)) fun _ => rfl
            · cases h
          · cases h
        · exact one_T hr g hp hgl h
      · exact one_T hr g hp hgl h
    · split at h
      · rename_i ed
        subst ed
        split at h
        · rename_i gn gp a1 a2 bp
          split at h
          · rename_i hs
            rw [Bool.and_eq_true, decide_eq_true_eq] at hs
            obtain ⟨rfl, hgs⟩ := hs
            obtain ⟨hg2, hd2⟩ := g.gl hgs
            split at h
            · rename_i a1' a2' h1 h2
              cases h
              have o := hr X c C W a1 a1' g h1
              have o2 := hr X c C W a2 a2' g h2
              exact .val rfl rfl (fun fr => pe_dzp g.calm hg (g.nob bn_dict) hg2 (g.nob bn_zip) o.v o2.v (star_of o.st) (star_of o2.st) (back_of fun x hx => by rw [List.mem_singleton.mp hx]; exact o2.st) (star_of rfl)) fun _ => rfl
            · cases h
          · cases h
        · cases h
      · cases h
theorem tyOf_len {ts : List Ty} (h : tyE c b = some ts) : True := trivial
theorem cB2_ok (hr : RecOk rec cx cv) (g : Good X c C W cx cv) {f : Str} (hgl : gl c f = true) (h : cB2 rec c f a b = some e') : Bun X C W (.Call (.Name f p) [a, b] [] pos) e' := by
  obtain ⟨hg, hd⟩ := g.gl hgl
  unfold cB2 at h
  split at h
  · rename_i ef
    subst ef
    split at h
    · rename_i a' ts ha hb
      split at h
      · rename_i hl
        cases h
        have o := cO_ok hr g ha
        obtain ⟨q1, q2⟩ := tyE_ok g hb (of_decide_eq_true hl)
        have pe := pe_is (q := p) (pos := pos) hg (g.nob bn_isi) boot_isinstance o.po q1 (by decide +kernel) hd (star_of o.st) (star_of q2)
        exact .of rfl rfl rfl pe fun _ => pt_vl pe fun _ => rfl
      · cases h
    · cases h
  · split at h
    · rename_i ef
      subst ef
      split at h
      · rename_i a' b' ha hb
        cases h
        have o := hr X c C W a a' g ha
        have o2 := hr X c C W b b' g hb
        have pe := pe_mn (q := p) (pos := pos) g.calm hg (g.nob bn_min) boot_min o.v o2.v (by decide +kernel) hd (star_of o.st) (star_of o2.st)
        exact .of rfl rfl rfl pe fun _ => pt_vl pe fun _ => rfl
      · cases h
    · split at h
      · rename_i ef
        subst ef
        split at h
        · rename_i a' b' ha hb
          cases h
          have o := hr X c C W a a' g ha
          have o2 := hr X c C W b b' g hb
          have pe := pe_mx (q := p) (pos := pos) g.calm hg (g.nob bn_max) boot_max o.v o2.v (by decide +kernel) hd (star_of o.st) (star_of o2.st)
          exact .of rfl rfl rfl pe fun _ => pt_vl pe fun _ => rfl
        · cases h
      · cases h
theorem fi_ok {f : Str} {q : FI} (h : fi c f = some q) : q ∈ c.fs ∧ q.x = f := by
  unfold fi at h
  exact ⟨List.mem_of_find?_eq_some h, by simpa using List.find?_some h⟩
theorem cCall_ok (hr : RecOk rec cx cv) (g : Good X c C W cx cv) {f : Str} {as : List Expr} (h : cCall rec c f as = some e') : Bun X C W (.Call (.Name f p) as [] pos) e' := by
  unfold cCall at h
  split at h
  · rename_i hgl
    obtain ⟨hg, hd⟩ := g.gl hgl
    split at h
    · rename_i q hq
      obtain ⟨hq1, hq2⟩ := fi_ok hq
      have F := g.fs q hq1
      rw [hq2] at F
      split at h
      · cases h
      · rename_i a rest
        split at h
        · rename_i hio
          split at h
          · rename_i x xp
            split at h
            · rename_i i as' hi has
              split at h
              · rename_i hl
                cases h
                obtain ⟨q1, q2⟩ := cEs_ok hr g has
                rw [hio] at F
                have pe := pe_cs (p := p) (pos := pos) F (fr := false) (fun h => by cases h) hg g.px (of_decide_eq_true hl) (g.var (pos := xp) hi) q1 hd (star_of rfl) (back_of q2)
                exact .of rfl rfl rfl pe fun _ => pt_vl pe fun _ => rfl
              · cases h
            · cases h
          · cases h
        · rename_i hio
          have hio : q.inout = false := by simpa using hio
          rw [hio] at F
          split at h
          · rename_i rb hb
            cases h
            unfold cBor at hb
            split at hb
            · rename_i hq
              simp only [Bool.and_eq_true, Bool.not_eq_true'] at hq
              rw [hq.2] at F
              split at hb
              · rename_i x xp
                split at hb
                · rename_i i as' hi has
                  split at hb
                  · rename_i hl
                    cases hb
                    obtain ⟨q1, q2⟩ := cEs_ok hr g has
                    rw [← of_decide_eq_true hl] at F
                    have pe := pe_cb (p := p) (pos := pos) F hg g.px rfl (g.var (pos := xp) hi) q1 hd (star_of rfl) (back_of q2)
                    exact .of rfl rfl rfl pe fun _ => pt_vl pe fun _ => rfl
                  · cases hb
                · cases hb
              · cases hb
            · cases hb
          split at h
          · rename_i as' has
            split at h
            · rename_i hl
              cases h
              obtain ⟨q1, q2⟩ := cEs_ok hr g has
              have hst := star_of (es := rest) (env := X.env) (q2 a (List.mem_cons_self ..))
              have hbk := back_of (env := X.env) (pos := pos) fun x hx => q2 x (List.mem_cons_of_mem _ hx)
              cases hf : q.fresh with
              | true =>
                rw [hf] at F
                simp only [if_true]
                exact .val rfl rfl (fun fr => pe_cl (p := p) F (.callF q.key as') (fun _ => by simp only [ev] <;> rfl) (fun _ => rfl) hg g.px (of_decide_eq_true hl) q1 hd hst hbk) fun _ => rfl
              | false =>
                rw [hf] at F
                simp only [Bool.false_eq_true, if_false]
                have pe := pe_cl (p := p) (pos := pos) (fr := false) F (.call q.key as') (fun _ => by simp only [ev] <;> rfl) (fun h => by cases h) hg g.px (of_decide_eq_true hl) q1 hd hst hbk
                exact .of rfl rfl rfl pe fun _ => pt_vl pe fun _ => rfl
            · cases h
          · cases h
    · split at h
      · exact cB1_ok hr g hgl h
      · exact cB2_ok hr g hgl h
      · cases h
  · cases h
theorem base_of {o : Expr} (h : okBase o = true) (m : Str) (env : PySem.Env) (w : Sem Value) : attributeBase o m env w = w := by
  unfold attributeBase
  split
  · cases h
  · rfl
theorem cGet_ok (hr : RecOk rec cx cv) (g : Good X c C W cx cv) {o : Expr} {as : List Expr} {apos cpos : Pos} (hl : (apos.endLine == cpos.line) = true) (h : cGet rec c o as = some e') : Bun X C W (.Call (.Attribute o "get" apos) as [] cpos) e' := by
  unfold cGet at h
  split at h
  · rename_i hb
    split at h
    · rename_i o' k ho
      obtain ⟨k', hk, rfl⟩ := map_none h
      have o1 := cO_ok hr g ho
      have o2 := hr X c C W k k' g hk
      have pe := pe_gt1 g.un o1.po o2.v ⟨base_of hb _ _ _, few_one o2.st, hl, by rw [star0 o2.st]; rfl⟩
      exact .of rfl rfl rfl pe fun _ => pt_vl pe fun _ => rfl
    · rename_i o' k d ho
      split at h
      · rename_i k' d' hk hd
        cases h
        have o1 := cO_ok hr g ho
        have o2 := hr X c C W k k' g hk
        have o3 := hr X c C W d d' g hd
        have pe := pe_gt2 g.un o1.po o2.v o3.v ⟨base_of hb _ _ _, by rw [star_of o2.st, star0 o3.st]; rfl, hl, by rw [star_of o2.st, star0 o3.st]; rfl⟩
        exact .of rfl rfl rfl pe fun _ => pt_vl pe fun _ => rfl
      · cases h
    · cases h
  · cases h
theorem cMeth_ok (hr : RecOk rec cx cv) (g : Good X c C W cx cv) {o : Expr} {nm : Str} {as : List Expr} {apos cpos : Pos} (h : cMeth rec c o nm as apos cpos = some e') : Bun X C W (.Call (.Attribute o nm apos) as [] cpos) e' := by
  unfold cMeth at h
  split at h
  · rename_i hline
    split at h
    · rename_i en
      subst en
      exact cGet_ok hr g hline h
    split at h
    · rename_i s sk sp
      split at h
      · rename_i en
        subst en
        split at h
        · rename_i a
          obtain ⟨a', ha, rfl⟩ := map_none h
          have o := hr X c C W a a' g ha
          have pe := pe_jn (s := s) (k := sk) (p := sp) o.v (star0 o.st) hline
          exact .of rfl rfl rfl pe fun _ => pt_vl pe fun _ => rfl
        · cases h
      · cases h
    · rename_i x xp
      split at h
      · rename_i en
        subst en
        split at h
        · rename_i i hi
          cases h
          have pe := pe_pop0 (C := C) (W := W) (g.var hi (pos := xp)) rfl hline
          exact .of rfl rfl rfl pe fun _ => pt_vl pe fun _ => rfl
        · rename_i i a hi
          obtain ⟨a', ha, rfl⟩ := map_none h
          have o := hr X c C W a a' g ha
          have pe := pe_popAt (g.var hi (pos := xp)) o.v rfl (few_one o.st) hline (star_of o.st) rfl
          exact .of rfl rfl rfl pe fun _ => pt_vl pe fun _ => rfl
        · cases h
      · split at h
        · rename_i en
          subst en
          split at h
          · rename_i o' a ho
            obtain ⟨a', ha, rfl⟩ := map_none h
            have b0 := cName_ok g (pos := xp) ho
            have o := hr X c C W a a' g ha
            have pe := pe_index b0.v o.v rfl (few_one o.st) hline (star_of o.st) rfl
            exact .of rfl rfl rfl pe fun _ => pt_vl pe fun _ => rfl
          · cases h
        · cases h
    · cases h
  · cases h
theorem plain_of (h : isSlE b = false) : PlainIx b := by
  intro o i
  cases b <;> first | rfl | cases h
theorem cSub_ok (hr : RecOk rec cx cv) (hn : RecNo rec) (g : Good X c C W cx cv) (h : cSub rec c a b = some e') : Bun X C W (.Subscript a b pos) e' := by
  unfold cSub at h
  split at h
  · cases h
  · rename_i a' ha
    have o := cO_ok hr g ha
    split at h
    · cases h
      exact .val rfl rfl (fun fr => pe_rv o.po) fun _ => rfl
    · obtain ⟨b', hb, rfl⟩ := map_none h
      have o2 := cO_ok hr g hb
      exact .val rfl rfl (fun fr => pe_sl1 true o.po o2.po) fun _ => rfl
    · obtain ⟨b', hb, rfl⟩ := map_none h
      have o2 := cO_ok hr g hb
      exact .val rfl rfl (fun fr => pe_sl1 false o.po o2.po) fun _ => rfl
    · split at h
      · rename_i l h' h1 h2
        cases h
        have o2 := hr X c C W _ _ g h1
        have o3 := hr X c C W _ _ g h2
        exact .val rfl rfl (fun fr => pe_sl2 o.po o2.v o3.v) fun _ => rfl
      · cases h
    · obtain ⟨b', hb, rfl⟩ := map_none h
      have o2 := cO_ok hr g hb
      have pe := pe_ixD (pos := pos) (plain_of (cO_no hn hb).2) g.un o.po o2.po
      exact .of rfl rfl rfl pe fun _ => pt_vl pe fun _ => rfl
theorem nst_tg : ∀ {n : Nat} {e : Expr} {t : Tg}, cT n c e = some t → nst e = true
  | n + 1, e, t, h => by
    cases e <;> first | rfl | (unfold cT at h; cases h)
theorem cT_ok (g : Good X c C W cx cv) : ∀ {n : Nat} {e : Expr} {t : Tg}, cT n c e = some t → PG X e (gT X.K t) ∧ (isTp t = true → ∃ es k p, e = .Tuple es k p)
  | n + 1, e, t, h => by
    unfold cT at h
    split at h
    · rename_i x p
      split at h
      · rename_i hs
        obtain ⟨i, hi, rfl⟩ := map_none h
        exact ⟨pg_v (g.name hi hs).1, fun h => by cases h⟩
      · cases h
    · split at h
      · rename_i a' b' h1 h2
        cases h
        obtain ⟨q1, _⟩ := cT_ok g h1
        obtain ⟨q2, _⟩ := cT_ok g h2
        obtain ⟨s1, s2, s3⟩ := asg_of (env := X.env) (es := [_]) (nst_tg h1)
        obtain ⟨t1, t2, t3⟩ := asg_of (env := X.env) (es := []) (nst_tg h2)
        exact ⟨pg_p2 g.calm q1 q2 s1 t1 (by rw [s2, t2]; rfl) (s3 (t3 rfl)), fun _ => ⟨_, _, _, rfl⟩⟩
      · cases h
    · split at h
      · rename_i a' b' d' h1 h2 h3
        cases h
        obtain ⟨q1, _⟩ := cT_ok g h1
        obtain ⟨q2, _⟩ := cT_ok g h2
        obtain ⟨q3, _⟩ := cT_ok g h3
        obtain ⟨s1, s2, s3⟩ := asg_of (env := X.env) (es := [_, _]) (nst_tg h1)
        obtain ⟨t1, t2, t3⟩ := asg_of (env := X.env) (es := [_]) (nst_tg h2)
        obtain ⟨u1, u2, u3⟩ := asg_of (env := X.env) (es := []) (nst_tg h3)
        exact ⟨pg_p3 g.calm q1 q2 q3 s1 t1 u1 (by rw [s2, t2, u2]; rfl) (s3 (t3 (u3 rfl))), fun _ => ⟨_, _, _, rfl⟩⟩
      · cases h
    · cases h
end
end BT
namespace BT
open PySem PySem.Spec PyProof.Rows L2
section
variable {X : Cx} {c : CC} {C : Calls} {W : WX} {cx : CXT} {cv : String → Value}
variable {rec : Rec} {a b d e : Expr} {a' b' d' e' : IE} {pos p : Pos}
theorem fold_of (h : isSetE e = false) (env : PySem.Env) (x : Value) : foldedSetIterable e env x = pure x := by
  cases e <;> first | rfl | cases h
theorem cIt_ok (hr : RecOk rec cx cv) (hn : RecNo rec) (g : Good X c C W cx cv) {it : It} {pr : Bool} (h : cIt rec c e = some (it, pr)) : (∀ tg, (pr = true → ∃ es k p, tg = .Tuple es k p) → PI X tg e (EI X C W pr it)) ∧ isSetE e = false := by
  have old : (rec c e).map (fun a' => (It.e a', false)) = some (it, pr) → (∀ tg, (pr = true → ∃ es k p, tg = .Tuple es k p) → PI X tg e (EI X C W pr it)) ∧ isSetE e = false := fun q => by
    obtain ⟨a', h1, h2⟩ := map_none q
    cases h2
    exact ⟨fun tg _ => pi_e (hr X c C W e a' g h1).v, (hn c e a' h1).1⟩
  unfold cIt at h
  split at h
  · rename_i f fp as cp
    split at h
    · rename_i hf
      rw [Bool.and_eq_true, decide_eq_true_eq] at hf
      obtain ⟨hgl, rfl⟩ := hf
      obtain ⟨hg, hd⟩ := g.gl hgl
      split at h
      · rename_i a
        obtain ⟨a', h1, h2⟩ := map_none h
        cases h2
        have o := hr X c C W a a' g h1
        exact ⟨fun tg _ => pi_r1 hg (g.nob bn_range) o.v (star0 o.st) (star_of o.st), rfl⟩
      · rename_i a b
        split at h
        · rename_i a' b' h1 h2
          cases h
          have o := hr X c C W a a' g h1
          have o2 := hr X c C W b b' g h2
          exact ⟨fun tg _ => pi_r2 hg (g.nob bn_range) o.v o2.v (by rw [star_of o.st, star0 o2.st]) (star0 o2.st) (star_of o.st) (star_of o2.st), rfl⟩
        · cases h
      · rename_i a b d
        split at h
        · rename_i a' b' d' h1 h2 h3
          cases h
          have o := hr X c C W a a' g h1
          have o2 := hr X c C W b b' g h2
          have o3 := hr X c C W d d' g h3
          exact ⟨fun tg _ => pi_r3 hg (g.nob bn_range) o.v o2.v o3.v (star_of o.st) (back_of fun x hx => by
            rcases List.mem_cons.mp hx with rfl | hx
            · exact o2.st
            · rw [List.mem_singleton.mp hx]; exact o3.st) (star_of o2.st) (star_of o3.st), rfl⟩
        · cases h
      · cases h
    · split at h
      · rename_i hf
        rw [Bool.and_eq_true, decide_eq_true_eq] at hf
        obtain ⟨hgl, rfl⟩ := hf
        obtain ⟨hg, hd⟩ := g.gl hgl
        split at h
        · rename_i a
          obtain ⟨a', h1, h2⟩ := map_none h
          cases h2
          have o := hr X c C W a a' g h1
          refine ⟨fun tg q => ?_, rfl⟩
          obtain ⟨es, k, p, rfl⟩ := q rfl
          exact pi_enum hg (g.nob bn_en) o.v (star0 o.st) (star_of o.st)
        · cases h
      · split at h
        · rename_i hf
          rw [Bool.and_eq_true, decide_eq_true_eq] at hf
          obtain ⟨hgl, rfl⟩ := hf
          obtain ⟨hg, hd⟩ := g.gl hgl
          split at h
          · rename_i a b
            split at h
            · rename_i a' b' h1 h2
              cases h
              have o := hr X c C W a a' g h1
              have o2 := hr X c C W b b' g h2
              refine ⟨fun tg q => ?_, rfl⟩
              obtain ⟨es, k, p, rfl⟩ := q rfl
              exact BT.pi_zip hg (g.nob bn_zip) o.v o2.v (star_of o.st) (back_of fun x hx => by rw [List.mem_singleton.mp hx]; exact o2.st) (star_of o2.st)
            · cases h
          · cases h
        · exact old h
  · split at h
    · rename_i o nm apos cpos hc
      simp only [Bool.and_eq_true, decide_eq_true_eq] at hc
      obtain ⟨⟨rfl, hl⟩, hb⟩ := hc
      obtain ⟨o', h1, h2⟩ := map_none h
      cases h2
      have b := hr X c C W o o' g h1
      refine ⟨fun tg q => ?_, rfl⟩
      obtain ⟨es, k, p, rfl⟩ := q rfl
      exact pi_its b.v (base_of hb _ _ _) hl
    · exact old h
  · exact old h
theorem Good.blk (g : Good X c C W cx cv) {scope : Scope} (hk : scope.kind = .function) (s : Shared) (H : Hp) (a : Addr) (cl : List (Str × Addr)) (fp : List Addr) : Good (X.blk s H scope (compEnvC scope cl a X.env) fp) (blkCC c scope) C W0 cx cv where
  N := g.N
  nd := g.nd
  calm := g.calm
  sc := by
    show relabel scope X.env = relS scope c.sc
    rw [← g.sc]
    rfl
  kind := hk
  fn := fun x h => h
  un := g.un
  bt := g.bt
  ks := g.ks
  fs := fun q hq => by
    obtain ⟨k, fa, fd, ps, sp, fo, hsp, hh⟩ := (g.fs q hq).ex
    exact ⟨k, fa, fd, ps, sp, fo, fun W' h vs H Q z => hsp W' (fun c H q => (h c H q).elim) vs H Q z, hh⟩
  px := g.pb _ rfl rfl
  pb := fun X' h1 h2 => g.pb X' h1 h2
/-- the parts of a comprehension -/
structure LcP (X : Cx) (C : Calls) (W : WX) (elt tg iter : Expr) (ifs : List Expr) (scope : Scope) (e' : IE) (own : List (Str × Nat)) (wi : TI) (g : TG) (tt : TT) (te : TE) : Prop where
  hi : PI X tg iter wi
  ok : BlkOk X.N X.env.scope scope own
  hg : ∀ (s : Shared) (H : Hp) (C : Addr) (cl : List (Str × Addr)) (fp : List Addr), PG (X.blk s H scope (compEnvC scope cl C X.env) fp) tg g
  ht : ∀ (s : Shared) (H : Hp) (C : Addr) (cl : List (Str × Addr)) (fp : List Addr), PTs (X.blk s H scope (compEnvC scope cl C X.env) fp) ifs tt
  he : ∀ (s : Shared) (H : Hp) (C : Addr) (cl : List (Str × Addr)) (fp : List Addr), PE (X.blk s H scope (compEnvC scope cl C X.env) fp) elt te
  hs : ∀ x, foldedSetIterable iter X.env x = pure x
  rd : ∀ fr σ H Q, EV X C W fr e' σ H Q → tLc wi g tt te (own.map (·.2)) σ H Q
  fr : freshE e' = true
  nb : isB e' = false
theorem cLc_ok (hr : RecOk rec cx cv) (hn : RecNo rec) (g : Good X c C W cx cv) {elt tg iter : Expr} {ifs : List Expr} {scope : Scope} (h : cLc rec c elt tg iter ifs scope = some e') :
    ∃ own wi gg tt te, LcP X C W elt tg iter ifs scope e' own wi gg tt te := by
  unfold cLc at h
  split at h
  · rename_i hb
    have ok : BlkOk X.N X.env.scope scope (ownOf c.N scope) := by rw [g.N, g.sc]; exact blkOk_by hb
    have gb := fun s H a cl fp => g.blk (scope := scope) ok.kind s H a cl fp
    split at h
    · rename_i it pr t e1 h1 h2 h3
      split at h
      · rename_i hc
        rw [Bool.and_eq_true, Bool.or_eq_true, Bool.not_eq_true'] at hc
        have tp : pr = true → isTp t = true := fun q => hc.1.resolve_left (by rw [q]; exact Bool.noConfusion)
        obtain ⟨q1, q2⟩ := cIt_ok hr hn g h1
        have hi := q1 tg fun q => (cT_ok (gb X.s_0 X.H_0 0 [] []) h2).2 (tp q)
        have hg := fun s H a cl fp => (cT_ok (gb s H a cl fp) h2).1
        have he := fun s H a cl fp => (hr _ _ C W0 elt e1 (gb s H a cl fp) h3).v
        split at h
        · cases h
          refine ⟨_, _, _, _, _, hi, ok, hg, fun s H a cl fp => pts_nil, he, fold_of q2 X.env, fun fr σ H Q ⟨Z, F, env, r, q⟩ => lc_read (C := C) (W := W) (it := it) (fr := fr) (f := fun e => match ev C e1 e with | .ok y e' => .ok (some y) e' | _ => .stuck) r (turn_lc e1) tp hc.2 (by simp only [ev] at q; exact q), rfl, rfl⟩
        · rename_i dd
          split at h
          · rename_i htk
            obtain ⟨d', h4, rfl⟩ := map_none h
            refine ⟨_, _, _, _, _, hi, ok, hg, fun s H a cl fp => pts_one ((hr _ _ C W0 dd d' (gb s H a cl fp) h4).pt htk), he, fold_of q2 X.env, fun fr σ H Q ⟨Z, F, env, r, q⟩ => lc_read (C := C) (W := W) (it := it) (fr := fr) r (turn_lcf e1 d') tp hc.2 (by simp only [ev] at q; exact q), rfl, rfl⟩
          · cases h
        · cases h
      · cases h
    · cases h
  · cases h
theorem LcP.pe {elt tg iter : Expr} {ifs : List Expr} {scope : Scope} {own : List (Str × Nat)} {wi : TI} {gg : TG} {tt : TT} {te : TE} (P : LcP X C W elt tg iter ifs scope e' own wi gg tt te) (g : Good X c C W cx cv) (fr : Bool) : PE X (.ListComp elt [⟨tg, iter, ifs, 0⟩] scope pos) (EV X C W fr e') :=
  PE.imp (pe_lc g.calm (by rw [g.N]; exact g.nd) P.hi P.ok P.hg P.ht P.he P.hs) fun σ H Q q => P.rd fr σ H Q q
theorem cK_ok {k : Const} {j : Nat} {d : D} (h : cK k = some d) : isL d = false ∧ ∃ v, PE X (.Constant k j pos) (tC v) ∧ ∀ F, Rep X.K F d v := by
  unfold cK at h
  split at h
  · cases h; exact ⟨rfl, _, pe_non, fun F => .non⟩
  · cases h; exact ⟨rfl, _, pe_bl, fun F => .bl _⟩
  · cases h; exact ⟨rfl, _, pe_int, fun F => .int _⟩
  · cases h; exact ⟨rfl, _, pe_str, fun F => .str _⟩
  · cases h
theorem marks2 {op op' : CmpOp} (h : isSetE d = false) : lastMarks [op, op'] [b, d] = false := by
  show behindInMarks op' d = false
  exact marks_of h
theorem stepE_ok (hr : RecOk rec cx cv) (hn : RecNo rec) : RecOk (stepE rec) cx cv := by
  intro X c C W e e' g h
  unfold stepE at h
  split at h
  · obtain ⟨d, h1, rfl⟩ := map_none h
    obtain ⟨q1, v, q2, q3⟩ := cK_ok (X := X) h1
    exact .of rfl rfl rfl (pe_k q2 q3 q1) fun _ => pt_vl (pe_k q2 q3 q1) fun _ => rfl
  · exact cName_ok g h
  · rename_i a op b pos
    split at h
    · rename_i a' b' h1 h2
      cases h
      have o1 := cO_ok hr g h1
      have o2 := cO_ok hr g h2
      exact .val rfl rfl (fun fr => pe_bin o1.po o2.po) fun _ => rfl
    · cases h
  · obtain ⟨a', h1, rfl⟩ := map_none h
    have o := hr X c C W _ _ g h1
    exact .of rfl rfl rfl (pe_ng o.v) fun _ => pt_vl (pe_ng o.v) fun _ => rfl
  · split at h
    · rename_i ht
      obtain ⟨a', h1, rfl⟩ := map_none h
      have o := hr X c C W _ _ g h1
      exact .of rfl rfl rfl (pe_nt o.v) fun _ => pt_nt (o.pt ht)
    · cases h
  · obtain ⟨q1, q2, q3⟩ := cBO_ok (pos := by assumption) hr g _ h
    exact .of rfl (cBO_fr h) q1 q2 fun _ => q3.pt
  · exact cCmp1_ok hr hn g h
  · split at h
    · rename_i h1 h2 h3
      cases h
      have o := hr X c C W _ _ g h1
      have o2 := hr X c C W _ _ g h2
      have o3 := hr X c C W _ _ g h3
      exact .of rfl rfl rfl (pe_ch g.un (marks2 (hn _ _ _ h3).1) o.v o2.v o3.v) fun _ => pt_ch g.un (marks2 (hn _ _ _ h3).1) o.v o2.v o3.v
    · cases h
  · split at h
    · rename_i ht
      split at h
      · rename_i h1 h2 h3
        cases h
        have o := hr X c C W _ _ g h1
        have o2 := hr X c C W _ _ g h2
        have o3 := hr X c C W _ _ g h3
        exact .of rfl rfl rfl (pe_if (o.pt ht) o2.v o3.v) fun h => by cases h
      · cases h
    · cases h
  · exact cCall_ok hr g h
  · exact cMeth_ok hr g h
  · exact cSub_ok hr hn g h
  · split at h
    · rename_i h1
      split at h
      · rename_i hl
        cases h
        obtain ⟨q1, q2⟩ := cEs_ok hr g h1
        exact .val rfl rfl (fun fr => pe_ls q1 (of_decide_eq_true hl)) fun _ => rfl
      · cases h
    · cases h
  · split at h
    · rename_i h1
      split at h
      · rename_i hl
        cases h
        obtain ⟨q1, q2⟩ := cEs_ok hr g h1
        exact .of rfl rfl rfl (pe_tp q1 (of_decide_eq_true hl)) fun _ => pt_vl (pe_tp q1 (of_decide_eq_true hl)) fun _ => rfl
      · cases h
    · cases h
  · obtain ⟨own, wi, gg, tt, te, P⟩ := cLc_ok hr hn g h
    exact ⟨rfl, fun fr _ => P.pe g fr, fun _ => pt_vl (P.pe g false) fun _ => rfl, P.nb⟩
  · cases h
    exact .val rfl rfl (fun fr => pe_dnw) fun _ => rfl
  · split at h
    · rename_i k' v' h1 h2
      cases h
      have b1 := hr X c C W _ k' g h1
      have b2 := hr X c C W _ v' g h2
      exact .val rfl rfl (fun fr => pe_dsp g.un b1.v b2.v) fun _ => rfl
    · cases h
  · cases h
theorem stepE_no : RecNo (stepE rec) := by
  intro c e e' h
  cases e <;> first | exact ⟨rfl, rfl⟩ | (unfold stepE at h; cases h)
theorem cE_ok : ∀ n : Nat, RecOk (cE n) cx cv ∧ RecNo (cE n)
  | 0 => ⟨fun _ _ _ _ _ _ _ h => (by cases h), fun _ _ _ h => (by cases h)⟩
  | n + 1 => ⟨stepE_ok (cE_ok n).1 (cE_ok n).2, stepE_no⟩
end
end BT
namespace BT
open PySem PySem.Spec PyProof.Rows L2
section
variable {X : Cx} {c : CC} {C : Calls} {W : WX} {cx : CXT} {cv : String → Value}
variable {a b d e tg v : Expr} {a' b' d' e' : IE} {pos p : Pos} {n : Nat}
theorem eE (g : Good X c C W cx cv) (h : cE n c e = some e') : Bun X C W e e' := (cE_ok n).1 X c C W e e' g h
theorem sw_none (h : isComp e = false) (t : Option Expr) (l : Nat) (env : PySem.Env) : swapsWith e t l env = pure false := by
  cases e <;> first | (unfold swapsWith; rfl) | cases h
theorem swS_none (h : isComp e = false) (l : Nat) (env : PySem.Env) : swapsWithSole [tg] e l env = pure false := sw_none h _ _ _
theorem asg1 (h : nst tg = true) (env : PySem.Env) : (assignEach [tg] env).map (·.2) = [assign tg env] := (asg_of (es := []) h).1
theorem blockK {env : PySem.Env} {sc : Scope} (h : env.scope = sc) (k : sc.kind = .function) : env.blockKind = .function := by
  unfold Env.blockKind
  rw [h, k]
  rfl
theorem swOf_ok {env : PySem.Env} {ts vs : List Expr} {k k2 : Nat} {p p2 : Pos} {r : Option (List Str)} (kf : env.scope.kind = .function) (hs : swOf env.scope ts vs = some r) : swappedStores [.Tuple ts k p] (.Tuple vs k2 p2) env = pure r := by
  have hb := blockK (env := env) rfl kf
  unfold swOf at hs
  unfold swappedStores
  simp only [hb]
  by_cases h1 : (!(ts.length == 2 || ts.length == 3) || vs.length != ts.length) = true
  · rw [if_pos h1] at hs
    cases hs
    have : (!(ts.length == 2 || ts.length == 3) || vs.length != ts.length || ScopeKind.function != ScopeKind.function) = true := by rw [h1]; rfl
    rw [if_pos this]
  · rw [if_neg h1] at hs
    have h1' : ¬ (!(ts.length == 2 || ts.length == 3) || vs.length != ts.length || ScopeKind.function != ScopeKind.function) = true := by
      rw [Bool.or_eq_true]
      exact fun q => q.elim h1 fun z => by cases z
    rw [if_neg h1']
    show (if vs.any starB = true then pure none else if ((swNames env.scope ts).length != ts.length || (swNames env.scope ts).eraseDups.length != (swNames env.scope ts).length) = true then pure none
      else if vs.all (foldedForSure 8) = true then pure none else _) = _
    by_cases h2 : vs.any starB = true
    · rw [if_pos h2] at hs ⊢
      cases hs
      rfl
    · rw [if_neg h2] at hs ⊢
      by_cases h3 : ((swNames env.scope ts).length != ts.length || (swNames env.scope ts).eraseDups.length != (swNames env.scope ts).length) = true
      · rw [if_pos h3] at hs ⊢
        cases hs
        rfl
      · rw [if_neg h3] at hs ⊢
        by_cases h4 : vs.all (foldedForSure 8) = true
        · rw [if_pos h4] at hs ⊢
          cases hs
          rfl
        · rw [if_neg h4] at hs ⊢
          by_cases h5 : vs.all (constantsAlone 8) = true
          · rw [if_pos h5] at hs
            cases hs
          · rw [if_neg h5] at hs
            cases hs
            rw [if_neg h5]
            rfl
theorem swOf_names {env : PySem.Env} {ts vs : List Expr} {ns : List Str} (h : swOf env.scope ts vs = some (some ns)) : ns = swNames env.scope ts ∧ (swNames env.scope ts).length = ts.length := by
  unfold swOf at h
  split at h
  · cases h
  · split at h
    · cases h
    · split at h
      · cases h
      · rename_i h3
        split at h
        · cases h
        · split at h
          · cases h
          · cases h
            refine ⟨rfl, ?_⟩
            rw [Bool.or_eq_true, not_or] at h3
            simpa using h3.1
theorem nmIx_ok (g : Good X c C W cx cv) {x : Str} {i : Nat} (h : nmIx c e = some (x, i)) : ∃ p, e = .Name x p ∧ PG X e (gName i) ∧ X.N[i]? = some x ∧ Loc X.env.scope x ∧ (X.fn x = true ∨ X.env.scope.names.lookup x = some .local) := by
  unfold nmIx at h
  split at h
  · split at h
    · rename_i hs
      obtain ⟨i', hi, h2⟩ := map_none h
      cases h2
      exact ⟨_, rfl, g.name hi hs⟩
    · cases h
  · cases h
/-- the swapped stores of two names, of three -/
theorem swN2 {sc : Scope} {x y : Str} {px py : Pos} (h : (swNames sc [.Name x px, .Name y py]).length = 2) : swNames sc [.Name x px, .Name y py] = [x, y] ∧ sc.names.lookup x = some .local ∧ sc.names.lookup y = some .local := by
  unfold swNames at h ⊢
  simp only [List.filterMap_cons, List.filterMap_nil] at h ⊢
  split at h
  · rename_i h1
    split at h <;> simp at h
  · rename_i q1 h1
    split at h
    · simp at h
    · rename_i q2 h2
      split at h1
      · rename_i g1
        split at h2
        · rename_i g2
          cases h1
          cases h2
          simp only [Bool.and_eq_true, beq_iff_eq] at g1 g2
          refine ⟨?_, g1.1, g2.1⟩
          simp [g1, g2]
        · cases h2
      · cases h1

theorem swN3 {sc : Scope} {x y z : Str} {px py pz : Pos} (h : (swNames sc [.Name x px, .Name y py, .Name z pz]).length = 3) : swNames sc [.Name x px, .Name y py, .Name z pz] = [x, y, z] ∧ sc.names.lookup x = some .local ∧ sc.names.lookup y = some .local ∧ sc.names.lookup z = some .local := by
  unfold swNames at h ⊢
  simp only [List.filterMap_cons, List.filterMap_nil] at h ⊢
  split at h
  · rename_i h1
    split at h
    · split at h <;> simp at h
    · split at h <;> simp at h
  · rename_i q1 h1
    split at h
    · split at h <;> simp at h
    · rename_i q2 h2
      split at h
      · simp at h
      · rename_i q3 h3
        split at h1
        · rename_i g1
          split at h2
          · rename_i g2
            split at h3
            · rename_i g3
              cases h1
              cases h2
              cases h3
              simp only [Bool.and_eq_true, beq_iff_eq] at g1 g2 g3
              refine ⟨?_, g1.1, g2.1, g3.1⟩
              simp [g1, g2, g3]
            · cases h3
          · cases h2
        · cases h1
theorem cE_lc {elt : Expr} {gs : List Comprehension} {scope : Scope} (h : cE n c (.ListComp elt gs scope pos) = some e') : ∃ tg iter ifs m, gs = [⟨tg, iter, ifs, 0⟩] ∧ cLc (cE m) c elt tg iter ifs scope = some e' := by
  cases n with
  | zero => cases h
  | succ m =>
    have h : stepE (cE m) c (.ListComp elt gs scope pos) = some e' := h
    unfold stepE at h
    split at h <;> first | (rename_i q; cases q; done) | (cases h; done) | skip
    rename_i q
    cases q
    exact ⟨_, _, _, m, rfl, h⟩
theorem as_name (g : Good X c C W cx cv) {x : Str} {i : Nat} {px : Pos} (hx : nmIx c (.Name x px) = some (x, i)) (h : cE n c v = some e') : PS X (.Assign [.Name x px] v pos) (EX X C W (.asg i e')) := by
  obtain ⟨p', e, hg, hN, hl, hf⟩ := nmIx_ok g hx
  have nd : X.N.Nodup := by rw [g.N]; exact g.nd
  have plain : (swapsWith v (some (.Name x px)) pos.line X.env = pure false) → PS X (.Assign [.Name x px] v pos) (EX X C W (.asg i e')) := fun hs =>
    ps_as (fun te he => ps_set nd hN hl he hs hf) ((eE g h).pe _ id)
  cases hv : isComp v with
  | false => exact plain (sw_none hv _ _ _)
  | true =>
    cases v with
    | ListComp elt gs scope p2 =>
      cases hB : (X.env.blockKind == .function && X.env.kindOf x == some .local && px.line == p2.line && !(scope.names.any fun (n, k) => n == x && (k == .local || k == .cell))) with
      | false => exact plain (by show pure _ = _; exact congrArg pure hB)
      | true =>
        obtain ⟨tg, iter, ifs, m, rfl, hlc⟩ := cE_lc h
        obtain ⟨own, wi, gg, tt, te, P⟩ := cLc_ok (cE_ok (cx := cx) (cv := cv) m).1 (cE_ok (cx := cx) (cv := cv) m).2 g hlc
        have hloc : X.env.scope.names.lookup x = some .local := by
          simp only [Bool.and_eq_true, beq_iff_eq] at hB
          exact hB.1.1.2
        exact ps_asLc (ps_setLc g.calm nd hN hloc (by show pure _ = _; exact congrArg pure hB) P.hi P.ok P.hg P.ht P.he P.hs) fun σ H Q q => P.rd _ σ H Q q
    | SetComp => cases n <;> cases h
    | DictComp => cases n <;> cases h
    | _ => cases hv
theorem nst_E (g : Good X c C W cx cv) (h : cE n c e = some e') : nst e = true := (eE g h).st
theorem cAsg_ok (g : Good X c C W cx cv) {s' : IS} (h : cAsg n c tg v = some s') : PS X (.Assign [tg] v pos) (EX X C W s') := by
  have nd : X.N.Nodup := by rw [g.N]; exact g.nd
  unfold cAsg at h
  split at h
  · rename_i x px
    split at h
    · rename_i x' i v' h1 h2
      cases h
      obtain ⟨p', e, _⟩ := nmIx_ok g h1
      cases e
      exact as_name g h1 h2
    · cases h
  · rename_i x px ix spos
    split at h
    · cases h
    · rename_i hv
      have hv : isComp v = false := by simpa using hv
      split at h
      · rename_i i x' v' hi h1 h2
        cases h
        have hsl := ((cE_ok (cx := cx) (cv := cv) n).2 c ix x' h1).2
        exact ps_si g.un (g.var hi) (eE g h1).v (eE g h2).v (swS_none hv _ _) rfl (asg1 rfl _) fun _ => by cases ix <;> first | rfl | cases hsl
      · cases h
  · rename_i ts kt pt
    split at h
    · rename_i vs kv pv
      have kf : X.env.scope.kind = .function := by rw [g.sc]; exact g.kind
      split at h
      · rename_i t1 t2 v1 v2
        split at h
        · rename_i x i y j a b r h1 h2 h3 h4 h5
          split at h
          · rename_i hij
            have hij := of_decide_eq_true hij
            cases h
            rw [← g.sc] at h5
            obtain ⟨p1, rfl, g1, n1, l1, f1⟩ := nmIx_ok g h1
            obtain ⟨p2, rfl, g2, n2, l2, f2⟩ := nmIx_ok g h2
            have b1 := eE g h3
            have b2 := eE g h4
            cases r with
            | some ns =>
              obtain ⟨q1, q2⟩ := swOf_names h5
              obtain ⟨q3, q4, q5⟩ := swN2 q2
              have hw := swOf_ok (k := kt) (p := pt) (k2 := kv) (p2 := pv) kf h5
              rw [q1, q3] at hw
              exact ps_as2 (fun ta ha => ps_par g.calm nd n1 n2 hij q4 q5 ha hw (swS_none rfl _ _)) (b1.pe _ id) (b2.pe _ id) (star_of b1.st) (star_of b2.st)
            | none =>
              exact ps_as2t g.calm (swS_none rfl _ _) (swOf_ok kf h5) (asg1 rfl _) g1 g2 rfl rfl rfl rfl (b1.pe _ id) (b2.pe _ id) (star_of b1.st) (star_of b2.st)
          · cases h
        · cases h
      · rename_i t1 t2 t3 v1 v2 v3
        split at h
        · rename_i x i y j z l a b d r h1 h2 h0 h3 h4 h6 h5
          split at h
          · rename_i hij
            obtain ⟨hij, hil, hjl⟩ := of_decide_eq_true hij
            cases h
            rw [← g.sc] at h5
            obtain ⟨p1, rfl, g1, n1, l1, f1⟩ := nmIx_ok g h1
            obtain ⟨p2, rfl, g2, n2, l2, f2⟩ := nmIx_ok g h2
            obtain ⟨p3, rfl, g3, n3, l3, f3⟩ := nmIx_ok g h0
            have b1 := eE g h3
            have b2 := eE g h4
            have b3 := eE g h6
            cases r with
            | some ns =>
              obtain ⟨q1, q2⟩ := swOf_names h5
              obtain ⟨q3, q4, q5, q6⟩ := swN3 q2
              have hw := swOf_ok (k := kt) (p := pt) (k2 := kv) (p2 := pv) kf h5
              rw [q1, q3] at hw
              exact ps_as3 (fun ta ha => ps_par3 g.calm nd n1 n2 n3 hij hil hjl q4 q5 q6 ha hw (swS_none rfl _ _)) (b1.pe _ id) b2.v (b3.pe _ id) (star_of b1.st) (star_of b2.st) (star_of b3.st)
            | none =>
              exact ps_as3t g.calm (swS_none rfl _ _) (swOf_ok kf h5) (asg1 rfl _) g1 g2 g3 rfl rfl rfl rfl rfl (b1.pe _ id) b2.v (b3.pe _ id) (star_of b1.st) (star_of b2.st) (star_of b3.st)
          · cases h
        · cases h
      · cases h
    · split at h
      · cases h
      · rename_i hnt hv
        have hv : isComp v = false := by simpa using hv
        split at h
        · rename_i t v' h1 h2
          cases h
          refine ps_asT (eE g h2).v (cT_ok g h1).1 (swS_none hv _ _) ?_ (asg1 rfl _)
          cases v <;> first | rfl | exact absurd rfl (hnt _ _ _)
        · cases h
  · cases h
end
end BT
namespace BT
open PySem PySem.Spec PyProof.Rows L2
/-- .. at statements -/
structure GoodS (X : Cx) (c : CC) (C : Calls) (W : WX) (cx : CXT) (cv : String → Value) : Prop extends Good X c C W cx cv where
  po : PassesOwn (model X.prog X.w) X.A X.env X.xe
  rs : ∀ c H, ¬ W c H
section
variable {X : Cx} {c : CC} {C : Calls} {W : WX} {cx : CXT} {cv : String → Value}
variable {a b d e tg v : Expr} {a' b' d' e' : IE} {pos p : Pos} {n : Nat} {s' : IS}
theorem cRet_ok (g : Good X c C W cx cv) {fresh : Bool} (h : cRet n c fresh e = some s') : PS X (.Return (some e) pos) (EX X C W s') := by
  unfold cRet at h
  split at h
  · split at h
    · obtain ⟨i, hi, rfl⟩ := map_none h
      exact ps_rtO (g.var hi)
    · obtain ⟨e', he, rfl⟩ := map_none h
      exact ps_rtF ((eE g he).pe _ id)
  · obtain ⟨e', he, rfl⟩ := map_none h
    exact ps_rt (fr := false) (eE g he).v
theorem ex_ok (g : Good X c C W cx cv) (hc : isComp e = false) (h : (cE n c e).map .ex = some s') : PS X (.Expr e pos) (EX X C W s') := by
  obtain ⟨e', he, rfl⟩ := map_none h
  exact ps_ex (sw_none hc _ _ _) (eE g he).v
theorem cEx_ok (g : Good X c C W cx cv) (h : cEx n c e = some s') : PS X (.Expr e pos) (EX X C W s') := by
  unfold cEx at h
  split at h
  · rename_i x px nm apos b cpos
    split at h
    · rename_i en
      subst en
      split at h
      · rename_i hl
        split at h
        · rename_i i b' hi hb
          cases h
          have o := eE g hb
          exact ps_ap (g.var hi) o.v (sw_none rfl _ _ _) rfl (few_one o.st) hl (star_of o.st) rfl
        · cases h
      · cases h
    · exact ex_ok g rfl h
  · split at h
    · cases h
    · rename_i hc
      exact ex_ok g (by simpa using hc) h
def RecSOk (rec : RecS) (X : Cx) (c : CC) (C : Calls) (W : WX) : Prop := ∀ sts s', rec c sts = some s' → PSs X sts (EXs X C W s')
theorem stepS_ok {rec : RecS} (g : GoodS X c C W cx cv) (hr : RecSOk rec X c C W) {st : Stmt} {fresh : Bool} (h : stepS rec n fresh c st = some s') : PS X st (EX X C W s') := by
  have G := g.toGood
  unfold stepS at h
  split at h
  · cases h; exact ps_ps
  · exact cRet_ok G h
  · exact cAsg_ok G h
  · rename_i x px op v pos
    split at h
    · rename_i hs
      split at h
      · rename_i i v' hi hv
        cases h
        obtain ⟨_, hN, hl, hf⟩ := G.name (pos := px) hi hs
        exact ps_au (fun te ti he ho => ps_aug (by rw [G.N]; exact G.nd) hN hl he ho hf) (eE G hv).v
      · cases h
    · cases h
  · exact cEx_ok G h
  · split at h
    · rename_i ht
      split at h
      · rename_i h1 h2 h3
        cases h
        exact ps_ifd ((eE G h1).pt ht) (hr _ _ h2) (hr _ _ h3)
      · cases h
    · cases h
  · split at h
    · rename_i it' pr t b' h1 h2 h3
      split at h
      · rename_i hc
        cases h
        rw [Bool.or_eq_true, Bool.not_eq_true'] at hc
        have tp : pr = true → isTp t = true := fun q => hc.resolve_left (by rw [q]; exact Bool.noConfusion)
        obtain ⟨q1, q2⟩ := cIt_ok (cE_ok (cx := cx) (cv := cv) n).1 (cE_ok (cx := cx) (cv := cv) n).2 G h1
        obtain ⟨q3, q4⟩ := cT_ok G h2
        exact ps_fo g.po G.calm tp (q1 _ fun q => q4 (tp q)) q3 (hr _ _ h3) (fold_of q2 _)
      · cases h
    · cases h
  · split at h
    · rename_i ht
      split at h
      · rename_i h1 h2
        cases h
        exact ps_wh g.po ((eE G h1).pt ht) (hr _ _ h2)
      · cases h
    · cases h
  · cases h; exact ps_rs g.rs
  · cases h
theorem cL_ok {rec : RecS} (g : GoodS X c C W cx cv) (hr : RecSOk rec X c C W) {fresh : Bool} : RecSOk (cL rec n fresh) X c C W
  | [], s', h => by cases h; exact pss_n
  | s :: ss, s', h => by
    unfold cL at h
    split at h
    · rename_i h1 h2
      cases h
      exact pss_c (stepS_ok g hr h1) (cL_ok g hr _ _ h2)
    · cases h
theorem cS_ok (g : GoodS X c C W cx cv) {fresh : Bool} : ∀ m : Nat, RecSOk (cS m n fresh) X c C W
  | 0 => fun _ _ h => by cases h
  | m + 1 => cL_ok g (cS_ok g m)
end

/-! ## a def keeps its promise -/
section
variable {K : PySem.W.Frag}
theorem env_len {fn : Fn} {ds : List D} {s : D} (h : ds.length = fn.ps) (hn : fn.ps + (if fn.inout then 1 else 0) ≤ fn.n) : (envOf fn ds s).length = fn.n := by
  unfold envOf
  cases hi : fn.inout with
  | true =>
    rw [hi] at hn
    simp only [if_true, List.length_append, List.length_map, List.length_replicate, List.length_cons, List.length_nil] at hn ⊢
    omega
  | false =>
    rw [hi] at hn
    simp only [Bool.false_eq_true, if_false, List.length_append, List.length_map, List.length_replicate, List.length_nil] at hn ⊢
    omega
theorem rep_none {m i : Nat} {x : Slot} (h : (List.replicate m Slot.no)[i]? = some x) : x = .no := by
  have := List.mem_of_getElem? h
  exact (List.mem_replicate.mp this).2
theorem map_slot {F : Hp} {ds : List D} {xs : List V} (r : Reps K F ds xs) {i m k : Nat} {x : Slot} (h : ((ds.map Slot.val) ++ List.replicate m Slot.no)[i]? = some x) : x = .no ∨ ∃ d v, x = .val d ∧ (xs.map some ++ List.replicate k none)[i]? = some (some v) ∧ Rep K F d v := by
  have hl := r.length
  by_cases hi : i < ds.length
  · rw [List.getElem?_append_left (by rw [List.length_map]; exact hi), List.getElem?_map] at h
    cases hd : ds[i]? with
    | none => rw [hd] at h; cases h
    | some d =>
      rw [hd] at h
      cases h
      obtain ⟨v, hv, q⟩ := r.get hd
      refine .inr ⟨d, v, rfl, ?_, q⟩
      rw [List.getElem?_append_left (by rw [List.length_map, hl]; exact hi), List.getElem?_map, hv]
      rfl
  · rw [List.getElem?_append_right (by rw [List.length_map]; omega)] at h
    exact .inl (rep_none h)
theorem start_R {fn : Fn} {F H : Hp} {ds : List D} {s : D} {ex : Option Addr} {xs vs : List V} {N : List Str} (sf : Same F H) (r : Reps K F ds xs) (hl : ds.length = fn.ps) (hn : fn.ps + (if fn.inout then 1 else 0) ≤ fn.n) (hN : N.length = fn.n)
    (hx : if fn.inout = true then ∃ a, ex = some a ∧ vs = .ref a :: xs ∧ Own K F H s a ∧ F a = none else ex = none ∧ vs = xs ∧ s = .none) : R K ⟨F, H, ex⟩ F (envOf fn ds s) (L2.start N vs) H := by
  have hel := env_len (s := s) hl hn
  have xl := r.length
  cases hi : fn.inout with
  | false =>
    rw [hi, if_neg Bool.false_ne_true] at hx
    obtain ⟨rfl, rfl, rfl⟩ := hx
    have he : envOf fn ds .none = ds.map Slot.val ++ List.replicate (fn.n - ds.length) Slot.no := by
      unfold envOf
      rw [hi]
      simp
    have get : ∀ (i : Nat) (x : Slot), (envOf fn ds .none)[i]? = some x → x = .no ∨ ∃ d v, x = .val d ∧ (L2.start N vs)[i]? = some (some v) ∧ Rep K F d v := fun i x h => by
      rw [he] at h
      exact map_slot r h
    refine ⟨sf, Same.refl F, fun b o e => rfl, fun b o e ne => e, fun b o e => ⟨o, e⟩, (fun a e => by cases e), ?_, fun i d e => ?_, fun i x d e e2 => ?_, fun i j x y d e' a h1 h2 h3 h4 h5 h6 => ?_⟩
    · rw [hel]
      unfold L2.start
      rw [List.length_append, List.length_map, List.length_replicate, xl, hN]
      rw [hi] at hn
      simp only [Bool.false_eq_true, if_false] at hn
      omega
    · rcases get i _ e with q | ⟨d', v, q, h1, h2⟩
      · cases q
      · cases q; exact ⟨v, h1, h2⟩
    · rcases get i _ e with q | ⟨d', v, q, h1, h2⟩
      · subst q; cases e2
      · subst q; cases e2
    · rcases get i _ h1 with q | ⟨d', v, q, _⟩
      · subst q; cases h3
      · subst q; cases h3
  | true =>
    rw [hi, if_pos rfl] at hx
    obtain ⟨a, rfl, rfl, ow, fa⟩ := hx
    have he : envOf fn ds s = .inp s :: (ds.map Slot.val ++ List.replicate (fn.n - ds.length - 1) Slot.no) := by
      unfold envOf
      rw [hi]
      simp
    have hs : L2.start N (.ref a :: xs) = some (.ref a) :: (xs.map some ++ List.replicate (N.length - (xs.length + 1)) none) := rfl
    have get : ∀ (i : Nat) (x : Slot), (envOf fn ds s)[i]? = some x → (i = 0 ∧ x = .inp s) ∨ x = .no ∨ ∃ d v, x = .val d ∧ (L2.start N (.ref a :: xs))[i]? = some (some v) ∧ Rep K F d v := fun i x h => by
      rw [he] at h
      cases i with
      | zero => cases h; exact .inl ⟨rfl, rfl⟩
      | succ i =>
        rw [List.getElem?_cons_succ] at h
        refine .inr ((map_slot (k := N.length - (xs.length + 1)) r h).imp id fun ⟨d, v, e1, e2, e3⟩ => ⟨d, v, e1, ?_, e3⟩)
        rw [hs, List.getElem?_cons_succ]
        exact e2
    obtain ⟨oa, hoa⟩ := ow.some
    refine ⟨sf, Same.refl F, fun b o e => rfl, fun b o e ne => e, fun b o e => ⟨o, e⟩, (fun b e => by cases e; exact ⟨oa, hoa⟩), ?_, fun i d e => ?_, fun i x d e e2 => ?_, fun i j x y d e' b h1 h2 h3 h4 h5 h6 => ?_⟩
    · rw [hel]
      unfold L2.start
      rw [List.length_append, List.length_map, List.length_replicate, List.length_cons, xl, hN]
      rw [hi] at hn
      simp only [if_true] at hn
      omega
    · rcases get i _ e with ⟨_, q⟩ | q | ⟨d', v, q, h1, h2⟩
      · cases q
      · cases q
      · cases q; exact ⟨v, h1, h2⟩
    · rcases get i _ e with ⟨rfl, q⟩ | q | ⟨d', v, q, h1, h2⟩
      · subst q
        cases e2
        exact ⟨a, rfl, ow, fa, rfl⟩
      · subst q; cases e2
      · subst q; cases e2
    · rcases get i _ h1 with ⟨rfl, q⟩ | q | ⟨d', v, q, _⟩
      · rcases get j _ h2 with ⟨rfl, q⟩ | q | ⟨d', v, q, _⟩
        · rfl
        · subst q; cases h4
        · subst q; cases h4
      · subst q; cases h3
      · subst q; cases h3
/-- a run's end, told from the caller's side -/
theorem end_E {fn : Fn} {F H F' H' : Hp} {ex : Option Addr} {env : Env} {σ : L2.St} {s' : D} (r : R K ⟨F, H, ex⟩ F' env σ H') (hs : selfOf fn env = some s') (hx : ex.isSome = true → fn.inout = true) : CallE K F H ex s' F' H' := by
  refine ⟨r.f0, r.fh, fun b o e ne => r.g b o e ne, fun b o e => r.nw b o e, fun a e => ?_⟩
  subst e
  have hi := hx rfl
  unfold selfOf at hs
  rw [hi, if_pos rfl] at hs
  split at hs
  · rename_i s h0
    cases hs
    obtain ⟨a', e1, q, _, z⟩ := r.ow 0 _ s' (slot_get h0 fun z => nomatch z) rfl
    cases z
    exact q
  · cases hs
/-- the body's reading gives the promise -/
theorem body_ok {fn : Fn} {C : Calls} {cv : String → Value} {N : List Str} {vs : List V} {H : Hp} {Q : VK} {E : XK} (hn : fn.ps + (if fn.inout then 1 else 0) ≤ fn.n) (hN : N.length = fn.n)
    (h : spC K cv fn.inout fn.fresh fn.ps (runFn C fn) vs H Q E) : tS K (fun c H => E (cv c) .none H) (execs C fn.body) { nx := fun _ H' => Q .non H', rt := Q } (L2.start N vs) H := by
  obtain ⟨F, ds, s, ex, xs, sf, rr, hl, hx, hm⟩ := h
  have r := start_R (N := N) sf rr hl hn hN hx
  have hex : ex.isSome = true → fn.inout = true := fun q => by
    cases hi : fn.inout with
    | true => rfl
    | false =>
      rw [hi, if_neg Bool.false_ne_true] at hx
      rw [hx.1] at q
      cases q
  refine ⟨⟨F, H, ex⟩, F, _, r, ?_⟩
  unfold runFn at hm
  rw [if_pos hl] at hm
  cases h1 : execs C fn.body (envOf fn ds s) with
  | ok f e =>
    rw [h1] at hm
    simp only at hm
    cases h2 : selfOf fn e with
    | none => rw [h2] at hm; exact hm.elim
    | some s' =>
      rw [h2] at hm
      cases f with
      | next =>
        simp only at hm
        intro F' σ' H' s1 r1
        cases hf : fn.fresh with
        | true => rw [hf, if_pos rfl] at hm; exact hm.elim
        | false =>
          rw [hf, if_neg Bool.false_ne_true] at hm
          exact hm F' H' .non (end_E r1 h2 hex) (by unfold CallV; rw [if_neg Bool.false_ne_true]; exact .non)
      | ret o d =>
        simp only at hm
        intro F' σ' H' v s1 r1 rv
        by_cases ho : (o == fn.fresh) = true
        · rw [if_pos ho] at hm
          have ho : o = fn.fresh := eq_of_beq ho
          refine hm F' H' v (end_E r1 h2 hex) ?_
          unfold CallV
          unfold RV at rv
          rw [← ho]
          cases o with
          | true =>
            rw [if_pos rfl] at rv ⊢
            obtain ⟨p, rfl, f⟩ := rv
            exact ⟨p, rfl, f.ow, f.nf, f.n0⟩
          | false =>
            rw [if_neg Bool.false_ne_true] at rv ⊢
            exact rv
        · rw [if_neg ho] at hm; exact hm.elim
  | exc c e =>
    rw [h1] at hm
    simp only at hm
    cases h2 : selfOf fn e with
    | none => rw [h2] at hm; exact hm.elim
    | some s' =>
      rw [h2] at hm
      exact fun F' σ' H' s1 r1 => hm F' H' (end_E r1 h2 hex)
  | stuck => rw [h1] at hm; exact hm.elim
end
end BT
namespace BT
open PySem PySem.Spec PyProof.Rows L2
def ccOf (N : List Str) (st : Stmt) (fs : List FI) (ks : List (Str × D)) : CC := ⟨N, defScope st, fun _ => true, fs, ks⟩
/-- a def of the text and its small form -/
structure FnW (K : PySem.W.Frag) (mg : Str → Option Value) (T : Tab) (fs : List FI) (ks : List (Str × D)) (q : FI) : Prop where
  ex : ∃ fa fd st qual N ps fn, FunD K q.x qual (defArgs st) (defBody st) (defScope st) [] [] fa fd ∧ mg q.x = some (.ref fa) ∧ Binds K fd ps [] ∧ FnScope N ps (defScope st) ∧ T q.key = some fn ∧ fn.inout = q.inout ∧ fn.fresh = q.fresh ∧ fn.ps = q.n ∧
    ps.length = fn.ps + (if fn.inout then 1 else 0) ∧ N.length = fn.n ∧ fn.ps + (if fn.inout then 1 else 0) ≤ fn.n ∧ cS 12 24 fn.fresh (ccOf N st fs ks) (defBody st) = some fn.body
structure Wd (K : PySem.W.Frag) (mg : Str → Option Value) (T : Tab) (fs : List FI) (ks : List (Str × D)) : Prop where
  bt : ∀ x ∈ bnl, mg x = none
  kk : ∀ x d, ks.lookup x = some d → isL d = false ∧ ∃ u v, mg x = some u ∧ RelV v u ∧ ∀ F, Rep K F d v
  ff : ∀ q ∈ fs, FnW K mg T fs ks q
def cv0 : String → Value := fun _ => .none
def sp0 (K : PySem.W.Frag) (inout fresh : Bool) (n : Nat) (m : List D → D → CR) : Sp := fun vs H Q _ => spC K cv0 inout fresh n m vs H Q fun _ _ _ => False
section
variable {P : Program} {w : World} {K : PySem.W.Frag} {mg : Str → Option Value} {base : Heap} {T : Tab} {fs : List FI} {ks : List (Str × D)}
theorem body_W {fn : Fn} {C : Calls} {N : List Str} {vs : List V} {H : Hp} {Q : VK} {W : WX} (hW : ∀ c H, ¬ W c H) (hn : fn.ps + (if fn.inout then 1 else 0) ≤ fn.n) (hN : N.length = fn.n)
    (h : spC K cv0 fn.inout fn.fresh fn.ps (runFn C fn) vs H Q fun _ _ _ => False) : tS K W0 (execs C fn.body) { nx := fun _ H' => Q .non H', rt := Q } (L2.start N vs) H := body_ok (cv := cv0) hn hN h
/-- all defs at a depth -/
def AllFn (P : Program) (w : World) (K : PySem.W.Frag) (mg : Str → Option Value) (base : Heap) (T : Tab) (fs : List FI) (k : Nat) : Prop :=
  ∀ q ∈ fs, ∃ fa fd ps, mg q.x = some (.ref fa) ∧ PySem.W.keepIn K (.ref fa) = true ∧ Binds K fd ps [] ∧ FnOk P w K mg base L2.CX0 k fa fd ps (sp0 K q.inout q.fresh q.n (callk T k q.key))
theorem fn_step (wd : Wd K mg T fs ks) {k : Nat} (ih : AllFn P w K mg base T fs k) {fa : Addr} {fd : FuncData} {x qual : Str} {st : Stmt} {N ps : List Str} {fn : Fn} {key : String} (F : FunD K x qual (defArgs st) (defBody st) (defScope st) [] [] fa fd) (S : FnScope N ps (defScope st))
    (hT : T key = some fn) (h4 : ps.length = fn.ps + (if fn.inout then 1 else 0)) (h5 : N.length = fn.n) (h6 : fn.ps + (if fn.inout then 1 else 0) ≤ fn.n) (h7 : cS 12 24 fn.fresh (ccOf N st fs ks) (defBody st) = some fn.body) :
    FnOk P w K mg base L2.CX0 (k + 1) fa fd ps (sp0 K fn.inout fn.fresh fn.ps (callk T (k + 1) key)) := by
  refine FunD.ok F S (fun vs H Q E h => spC_len h4 vs H Q _ h) fun cdv A outer s H vs Q E hr hsp => ?_
  have hrun : callk T (k + 1) key = runFn (callk T k) fn := by
    funext ds s
    show (match T key with | some fn => runFn (callk T k) fn ds s | none => .stuck) = _
    rw [hT]
  unfold sp0 at hsp
  rw [hrun] at hsp
  refine ⟨_, PSs.nox (cS_ok (X := (cxOf L2.CX0 P w K mg base N qual (defScope st) fa cdv A outer s H E).nox) (c := ccOf N st fs ks) (C := callk T k) (W := W0) (cx := L2.CX0) (cv := cv0) ?_ 12 _ _ h7), body_W (W := W0) (fun _ _ z => z) h6 h5 hsp⟩
  exact {
    N := rfl
    nd := S.nd
    calm := rfl
    sc := rfl
    kind := S.kind
    fn := fun _ _ => rfl
    un := hr.units
    bt := wd.bt
    ks := wd.kk
    fs := fun q2 hq2 => by
      obtain ⟨fa2, fd2, ps2, m2, k2, b2, fo⟩ := ih q2 hq2
      exact ⟨k, fa2, fd2, ps2, _, fo, fun W' hW' vs H Q z => spC_mono z fun c d H ⟨_, c', _, hh⟩ => hW' c' H hh, hr, m2, k2, b2⟩
    px := fun _ _ _ _ _ _ _ h => h.elim
    pb := fun X' _ _ _ _ _ _ _ _ _ h => h.elim
    po := PassesOwn.never
    rs := fun _ _ z => z }
theorem all_fn (wd : Wd K mg T fs ks) : ∀ k : Nat, AllFn P w K mg base T fs k
  | 0 => fun q hq => by
    obtain ⟨fa, fd, st, qual, N, ps, fn, F, hm, hb, S, hT, h1, h2, h3, h4, h5, h6, h7⟩ := (wd.ff q hq).ex
    refine ⟨fa, fd, ps, hm, F.kp, hb, ⟨fun vs H Q E h => spC_len (by rw [h4, h1, h3]) vs H Q _ h, fun A outer s H args us vs Q E _ _ _ _ h => ?_⟩⟩
    obtain ⟨_, _, _, _, _, _, _, _, _, hm⟩ := h
    exact hm.elim
  | k + 1 => fun q hq => by
    obtain ⟨fa, fd, st, qual, N, ps, fn, F, hm, hb, S, hT, h1, h2, h3, h4, h5, h6, h7⟩ := (wd.ff q hq).ex
    have g := fn_step (P := P) (w := w) (base := base) wd (all_fn wd k) F S hT h4 h5 h6 h7
    rw [h1, h2, h3] at g
    exact ⟨fa, fd, ps, hm, F.kp, hb, g⟩
theorem lookup_mem {x : Str} {d : D} : ∀ {l : List (Str × D)}, l.lookup x = some d → (x, d) ∈ l
  | [], h => by cases h
  | (y, e) :: l, h => by
    rw [List.lookup_cons] at h
    cases hxy : (x == y) with
    | true =>
      rw [hxy] at h
      cases h
      rw [eq_of_beq hxy]
      exact List.mem_cons_self ..
    | false =>
      rw [hxy] at h
      exact List.mem_cons_of_mem _ (lookup_mem h)
theorem kk_of {l : List (Str × D)} {p : Str → D → Prop} (h : ∀ q ∈ l, p q.1 q.2) (x : Str) (d : D) (e : l.lookup x = some d) : p x d := h (x, d) (lookup_mem e)
theorem all_c {α : Type} {p : α → Prop} {a : α} {l : List α} (h : p a) (t : ∀ q ∈ l, p q) : ∀ q ∈ a :: l, p q := fun q hq => by
  rcases List.mem_cons.mp hq with rfl | hq
  · exact h
  · exact t q hq
theorem all_n {α : Type} {p : α → Prop} : ∀ q ∈ ([] : List α), p q := fun q hq => nomatch hq
theorem lst_of {H : Hp} {a : Addr} {xs : List V} (h : SqL K H a xs) (hl : xs.length ≤ sizeLine) : LstAt K H a xs := by
  rcases h with (e | ⟨o, e⟩) | ⟨o, its, n, e, c, d, d2, z, r⟩
  · exact ⟨hl, .inl e⟩
  · exact ⟨hl, .inr (.inl ⟨o, e⟩)⟩
  · exact ⟨hl, .inr (.inr ⟨o, its, n, e, c, d, d2, z, r⟩)⟩
theorem law_sp {H : Hp} {a : Addr} {ns : List Int} {m : List D → D → CR} {E : XK} (hS : SqL K H a (ns.map V.int)) (hl : ns.length ≤ 63) (h : m [.list (ns.map PyData.int)] .none = .ok (.bool true) .none) :
    sp0 K false false 1 m [.ref a] H (fun v _ => v = .bl true) E := by
  refine ⟨H, [.list (ns.map PyData.int)], .none, none, [.ref a], Same.refl H, .cons (.lst (lst_of hS (by rw [List.length_map, sizeLine_eq]; omega)) Reps.ints) .nil, rfl, ?_, ?_⟩
  · rw [if_neg Bool.false_ne_true]; exact ⟨rfl, rfl, rfl⟩
  · rw [h]
    intro F' H' v _ q
    unfold CallV at q
    rw [if_neg Bool.false_ne_true] at q
    exact q.bl_
theorem k_int {x : Str} {i : Int} (h : ∃ t, mg x = some (.int i t)) : isL (.int i) = false ∧ ∃ u v, mg x = some u ∧ RelV v u ∧ ∀ F, Rep K F (.int i) v := by
  obtain ⟨t, h⟩ := h
  exact ⟨rfl, _, .int i, h, ⟨t, rfl⟩, fun F => .int i⟩
end
end BT
namespace BT
open PySem
/-! ## plain lemmas on the small language -/
section
variable {C : Calls} {t : Tg} {vs : List Nat}
theorem wipeE_get {e e' : Env} (h : wipeE e' vs = wipeE e vs) (e0 : Env) (hl : e'.length = e.length) : backE e0 e' vs = backE e0 e vs := by
  refine List.ext_getElem? fun i => ?_
  by_cases hi : i ∈ vs
  · have key : ∀ (e : Env) (vs : List Nat), i ∈ vs → (backE e0 e vs)[i]? = if i < e.length then some (slot e0 i) else none := by
      intro e vs
      induction vs with
      | nil => intro h; cases h
      | cons v vs ih =>
        intro h
        unfold backE
        rw [List.getElem?_set, backE_len]
        by_cases hv : v = i
        · rw [if_pos hv, hv]
        · rw [if_neg hv]
          rcases List.mem_cons.mp h with z | h
          · exact absurd z.symm hv
          · exact ih h
    rw [key e' vs hi, key e vs hi, hl]
  · rw [backE_out hi, backE_out hi, ← wipeE_out (e := e') hi, h, wipeE_out hi]
theorem backE_self (e : Env) : ∀ vs : List Nat, backE e e vs = e
  | [] => rfl
  | v :: vs => by
    unfold backE
    rw [backE_self e vs]
    refine List.ext_getElem? fun i => ?_
    rw [List.getElem?_set]
    by_cases h : v = i
    · subst h
      rw [if_pos rfl]
      by_cases hl : v < e.length
      · rw [if_pos hl]
        unfold slot
        rw [List.getD_eq_getElem?_getD, List.getElem?_eq_getElem hl]
        rfl
      · rw [if_neg hl, List.getElem?_eq_none (by omega)]
    · rw [if_neg h]
theorem lcGo_inv {f : Env → Res (Option D)} (I : Nat → List D → Env → Prop) (xs : List D) (h : ∀ (i : Nat) (hi : i < xs.length) acc e, I i acc e → ∃ e1 r e2, bindT t xs[i] (wipeE e vs) = some e1 ∧ f e1 = .ok r e2 ∧ I (i + 1) (acc ++ r.toList) e2) :
    ∀ e, I 0 [] e → ∃ ys e', lcGo f t vs xs e = .ok ys e' ∧ I xs.length ys e' := by
  have gen : ∀ (n i : Nat) acc e, i + n = xs.length → I i acc e → ∃ ys e', lcGo f t vs (xs.drop i) e = .ok ys e' ∧ I xs.length (acc ++ ys) e' := by
    intro n
    induction n with
    | zero =>
      intro i acc e hi hI
      have hi : i = xs.length := by omega
      rw [List.drop_eq_nil_of_le (by omega)]
      exact ⟨[], e, rfl, by rw [List.append_nil]; exact hi ▸ hI⟩
    | succ n ih =>
      intro i acc e hi hI
      have hlt : i < xs.length := by omega
      obtain ⟨e1, r, e2, h1, h2, h3⟩ := h i hlt acc e hI
      obtain ⟨ys, e', h4, h5⟩ := ih (i + 1) _ e2 (by omega) h3
      rw [List.drop_eq_getElem_cons hlt]
      unfold lcGo
      rw [h1]
      simp only [h2, h4]
      cases r with
      | none => exact ⟨ys, e', rfl, by simpa using h5⟩
      | some y => exact ⟨y :: ys, e', rfl, by simpa using h5⟩
  intro e hI
  obtain ⟨ys, e', h1, h2⟩ := gen xs.length 0 [] e (by omega) hI
  exact ⟨ys, e', by simpa using h1, by simpa using h2⟩
theorem lcGo_pure {f : Env → Res (Option D)} (g : D → Option D) (e : Env) : ∀ xs : List D, (∀ x ∈ xs, ∃ e1 e2, bindT t x (wipeE e vs) = some e1 ∧ f e1 = .ok (g x) e2 ∧ wipeE e2 vs = wipeE e vs ∧ e2.length = e.length) →
    ∀ e0, wipeE e0 vs = wipeE e vs → e0.length = e.length → ∃ e', lcGo f t vs xs e0 = .ok (xs.filterMap g) e' ∧ wipeE e' vs = wipeE e vs ∧ e'.length = e.length
  | [], _, e0, h0, hl => ⟨e0, rfl, h0, hl⟩
  | x :: xs, h, e0, h0, hl => by
    obtain ⟨e1, e2, h1, h2, h3, h4⟩ := h x (List.mem_cons_self ..)
    obtain ⟨e', h5, h6, h7⟩ := lcGo_pure g e xs (fun y hy => h y (List.mem_cons_of_mem _ hy)) e2 h3 h4
    unfold lcGo
    rw [h0, h1]
    simp only [h2, h5]
    refine ⟨e', ?_, h6, h7⟩
    cases hg : g x with
    | none => simp [List.filterMap_cons, hg]
    | some y => simp [List.filterMap_cons, hg]
theorem lcEnd_pure {f : Env → Res (Option D)} (g : D → Option D) (e : Env) (xs : List D) (h : ∀ x ∈ xs, ∃ e1 e2, bindT t x (wipeE e vs) = some e1 ∧ f e1 = .ok (g x) e2 ∧ wipeE e2 vs = wipeE e vs ∧ e2.length = e.length) :
    lcEnd vs e (lcGo f t vs xs e) = .ok (.list (xs.filterMap g)) e := by
  obtain ⟨e', h1, h2, h3⟩ := lcGo_pure g e xs h e rfl rfl
  rw [h1]
  show Res.ok _ (backE e e' vs) = _
  rw [wipeE_get h2 e h3, backE_self]
/-- a comprehension as one step -/
def evT (C : Calls) (x : IE) : Env → Res (Option D) := fun e => match ev C x e with | .ok y e' => .ok (some y) e' | _ => .stuck
def evF (C : Calls) (x c : IE) : Env → Res (Option D) := fun e => match ev C c e with
        | .ok (.bool true) e2 => match ev C x e2 with | .ok y e' => .ok (some y) e' | _ => .stuck
        | .ok (.bool false) e2 => .ok none e2
        | _ => .stuck
def lcRun (vs : List Nat) (t : Tg) (r : Res (List D)) (f : Env → Res (Option D)) : Res D :=
  match r with
  | .ok xs e1 => if noOwn e1 vs && isLong xs then lcEnd vs e1 (lcGo f t vs xs e1) else .stuck
  | .exc c e1 => .exc c e1
  | .stuck => .stuck
theorem ev_lc {x : IE} {it : It} {e : Env} : ev C (.lc vs x t it) e = lcRun vs t (evIt C it e) (evT C x) := by simp only [ev]; rfl
theorem ev_lcf {x c : IE} {it : It} {e : Env} : ev C (.lcf vs x t it c) e = lcRun vs t (evIt C it e) (evF C x c) := by simp only [ev]; rfl
/-- [x' for .. in ..], x' a function of the item -/
theorem lc_map {x' : IE} {e1 : Env} {xs : List D} (g : D → D) (hno : noOwn e1 vs = true) (hl : xs.length ≤ big)
    (h : ∀ x ∈ xs, ∃ e2 e3, bindT t x (wipeE e1 vs) = some e2 ∧ ev C x' e2 = .ok (g x) e3 ∧ wipeE e3 vs = wipeE e1 vs ∧ e3.length = e1.length) : lcRun vs t (.ok xs e1) (evT C x') = .ok (.list (xs.map g)) e1 := by
  simp only [lcRun, hno, isLong, decide_eq_true hl, Bool.and_self, if_true]
  rw [lcEnd_pure (fun x => some (g x)) e1 xs fun x hx => ?_, List.filterMap_eq_map' (f := g)]
  · obtain ⟨e2, e3, h1, h2, h3, h4⟩ := h x hx
    exact ⟨e2, e3, h1, by simp only [evT, h2], h3, h4⟩
/-- [x' for .. in .. if c'] -/
theorem lcf_filter {x' c' : IE} {e1 : Env} {xs : List D} (p : D → Bool) (g : D → D) (hno : noOwn e1 vs = true) (hl : xs.length ≤ big)
    (h : ∀ x ∈ xs, ∃ e2 e3, bindT t x (wipeE e1 vs) = some e2 ∧ ev C c' e2 = .ok (.bool (p x)) e3 ∧ (p x = false → wipeE e3 vs = wipeE e1 vs ∧ e3.length = e1.length) ∧ (p x = true → ∃ e4, ev C x' e3 = .ok (g x) e4 ∧ wipeE e4 vs = wipeE e1 vs ∧ e4.length = e1.length)) :
    lcRun vs t (.ok xs e1) (evF C x' c') = .ok (.list ((xs.filter p).map g)) e1 := by
  simp only [lcRun, hno, isLong, decide_eq_true hl, Bool.and_self, if_true]
  rw [lcEnd_pure (fun x => if p x = true then some (g x) else none) e1 xs fun x hx => ?_]
  · congr 2
    clear h hl
    induction xs with
    | nil => rfl
    | cons x xs ih =>
      rw [List.filterMap_cons, List.filter_cons]
      cases hp : p x <;> simp [ih]
  · obtain ⟨e2, e3, h1, h2, h3, h4⟩ := h x hx
    cases hp : p x with
    | false => exact ⟨e2, e3, h1, by simp [evF, h2, hp], h3 hp⟩
    | true =>
      obtain ⟨e4, h5, h6⟩ := h4 hp
      exact ⟨e2, e4, h1, by simp [evF, h2, hp, h5], h6⟩
/-- a comprehension whose turns change the places -/
theorem lc_inv {x' : IE} {e1 : Env} (I : Nat → List D → Env → Prop) (xs : List D) (hno : noOwn e1 vs = true) (hl : xs.length ≤ big) (h0 : I 0 [] e1)
    (h : ∀ (i : Nat) (hi : i < xs.length) acc e, I i acc e → ∃ e2 y e3, bindT t xs[i] (wipeE e vs) = some e2 ∧ ev C x' e2 = .ok y e3 ∧ I (i + 1) (acc ++ [y]) e3) :
    ∃ ys e3, lcRun vs t (.ok xs e1) (evT C x') = .ok (.list ys) (backE e1 e3 vs) ∧ I xs.length ys e3 := by
  obtain ⟨ys, e', h1, h2⟩ := lcGo_inv (f := evT C x') I xs (fun i hi acc e hI => by
    obtain ⟨e2, y, e3, a, b, c⟩ := h i hi acc e hI
    exact ⟨e2, some y, e3, a, by simp only [evT, b], c⟩) e1 h0
  refine ⟨ys, e', ?_, h2⟩
  simp only [lcRun, hno, isLong, decide_eq_true hl, Bool.and_self, if_true, h1]
  rfl
theorem lcf_inv {x' c' : IE} {e1 : Env} (I : Nat → List D → Env → Prop) (xs : List D) (hno : noOwn e1 vs = true) (hl : xs.length ≤ big) (h0 : I 0 [] e1)
    (h : ∀ (i : Nat) (hi : i < xs.length) acc e, I i acc e → ∃ e2 b e3, bindT t xs[i] (wipeE e vs) = some e2 ∧ ev C c' e2 = .ok (.bool b) e3 ∧ (b = false → I (i + 1) acc e3) ∧ (b = true → ∃ y e4, ev C x' e3 = .ok y e4 ∧ I (i + 1) (acc ++ [y]) e4)) :
    ∃ ys e3, lcRun vs t (.ok xs e1) (evF C x' c') = .ok (.list ys) (backE e1 e3 vs) ∧ I xs.length ys e3 := by
  obtain ⟨ys, e', h1, h2⟩ := lcGo_inv (f := evF C x' c') I xs (fun i hi acc e hI => by
    obtain ⟨e2, b, e3, h1, h2, h3, h4⟩ := h i hi acc e hI
    cases b with
    | false => exact ⟨e2, none, e3, h1, by simp only [evF, h2], by simpa using h3 rfl⟩
    | true =>
      obtain ⟨y, e4, h5, h6⟩ := h4 rfl
      exact ⟨e2, some y, e4, h1, by simp only [evF, h2, h5], h6⟩) e1 h0
  refine ⟨ys, e', ?_, h2⟩
  simp only [lcRun, hno, isLong, decide_eq_true hl, Bool.and_self, if_true, h1]
  rfl
/-- loops as one step -/
def bodyF (C : Calls) (b : ISs) : Env → Res Fl := fun e => execs C b e
def condF (C : Calls) (c : IE) : Env → Res D := fun e => ev C c e
def forRun (t : Tg) (r : Res (List D)) (body : Env → Res Fl) : Res Fl :=
  match r with
  | .ok xs e1 => forGo t body xs e1
  | .exc c e1 => .exc c e1
  | .stuck => .stuck
def whileRun (c : Env → Res D) (body : Env → Res Fl) (e : Env) : Res Fl := whileGo c body fuel e
theorem ex_for {it : It} {b : ISs} {e : Env} : exec C (.for_ t it b) e = forRun t (evIt C it e) (bodyF C b) := by simp only [exec]; rfl
theorem ex_while {c : IE} {b : ISs} {e : Env} : exec C (.while_ c b) e = whileRun (condF C c) (bodyF C b) e := by simp only [exec]; rfl
theorem ex_c {s : IS} {ss : ISs} {e e1 : Env} (h : exec C s e = .ok .next e1) : execs C (.cons s ss) e = execs C ss e1 := by
  show (match exec C s e with | .ok .next e1 => execs C ss e1 | r => r) = _
  rw [h]
theorem ex_n {e : Env} : execs C .nil e = .ok .next e := rfl
theorem for_inv {body : Env → Res Fl} (I : Nat → Env → Prop) (xs : List D) (h : ∀ (i : Nat) (hi : i < xs.length) e, I i e → ∃ e1 e2, bindT t xs[i] e = some e1 ∧ body e1 = .ok .next e2 ∧ I (i + 1) e2) :
    ∀ e, I 0 e → ∃ e', forGo t body xs e = .ok .next e' ∧ I xs.length e' := by
  have gen : ∀ (n i : Nat) e, i + n = xs.length → I i e → ∃ e', forGo t body (xs.drop i) e = .ok .next e' ∧ I xs.length e' := by
    intro n
    induction n with
    | zero =>
      intro i e hi hI
      have hi : i = xs.length := by omega
      rw [List.drop_eq_nil_of_le (by omega)]
      exact ⟨e, rfl, hi ▸ hI⟩
    | succ n ih =>
      intro i e hi hI
      have hlt : i < xs.length := by omega
      obtain ⟨e1, e2, h1, h2, h3⟩ := h i hlt e hI
      obtain ⟨e', h4, h5⟩ := ih (i + 1) e2 (by omega) h3
      rw [List.drop_eq_getElem_cons hlt]
      unfold forGo
      rw [h1]
      simp only [h2]
      exact ⟨e', h4, h5⟩
  intro e hI
  obtain ⟨e', h1, h2⟩ := gen xs.length 0 e (by omega) hI
  exact ⟨e', by simpa using h1, h2⟩
end
abbrev iL (ns : List Int) : D := .list (ns.map .int)
abbrev iT (ns : List Int) : D := .tuple (ns.map .int)
theorem items_l {xs : List D} : items? (.list xs) = some xs := rfl
theorem items_t {xs : List D} : items? (.tuple xs) = some xs := rfl
theorem items_iT {ns : List Int} : items? (iT ns) = some (ns.map PyData.int) := rfl
theorem iter_l {xs : List D} : iter? (.list xs) = some xs := rfl
theorem iter_t {xs : List D} : iter? (.tuple xs) = some xs := rfl
theorem iter_iT {ns : List Int} : iter? (iT ns) = some (ns.map PyData.int) := rfl
theorem iter_d {kvs : List (D × D)} : iter? (.dict kvs) = some (kvs.map (·.1)) := rfl
theorem bools?_of {α : Type} (l : List α) (f : α → Bool) : bools? (l.map fun x => PyData.bool (f x)) = some (l.map f) := by
  induction l with
  | nil => rfl
  | cons a l ih => simp [bools?, ih]
theorem callk_s {T : Tab} {k : Nat} {f : String} {fn : Fn} {ds : List D} {s : D} (h : T f = some fn) : callk T (k + 1) f ds s = runFn (callk T k) fn ds s := by
  show (match T f with | some fn => runFn (callk T k) fn ds s | none => .stuck) = _
  rw [h]
end BT
namespace BT
open PySem
/-! ## the small language, forward: what is wanted behind a step -/
/-- keeps simp out of what it bears -/
structure Bx {α : Type} (I : α) : Type where
def wR {α : Type} (r : Res α) (Q : α → Env → Prop) : Prop := match r with
  | .ok d e => Q d e
  | _ => False
def wCR (r : CR) (Q : D → D → Prop) : Prop := match r with
  | .ok d s => Q d s
  | _ => False
def wO {α : Type} (o : Option α) (Q : α → Prop) (_ : Bx Q := ⟨⟩) : Prop := match o with
  | some a => Q a
  | none => False
@[simp] theorem wO_some {α : Type} {a : α} {Q : α → Prop} : wO (some a) Q = Q a := id rfl
def wpE (C : Calls) (a : IE) (e : Env) (Q : D → Env → Prop) (_ : Bx Q := ⟨⟩) : Prop := wR (ev C a e) Q
def wpEs (C : Calls) (as : IEs) (e : Env) (Q : List D → Env → Prop) (_ : Bx Q := ⟨⟩) : Prop := wR (evs C as e) Q
def wpI (C : Calls) (it : It) (e : Env) (Q : List D → Env → Prop) (_ : Bx Q := ⟨⟩) : Prop := wR (evIt C it e) Q
def wpC (C : Calls) (f : String) (ds : List D) (s : D) (Q : D → D → Prop) (_ : Bx Q := ⟨⟩) : Prop := wCR (C f ds s) Q
def wpS (C : Calls) (ss : ISs) (e : Env) (Q : Fl → Env → Prop) (_ : Bx Q := ⟨⟩) : Prop := wR (execs C ss e) Q
def wpL (C : Calls) (vs : List Nat) (x : IE) (t : Tg) (xs : List D) (e : Env) (Q : D → Env → Prop) (_ : Bx Q := ⟨⟩) : Prop := wR (lcEnd vs e (lcGo (evT C x) t vs xs e)) Q
def wpLF (C : Calls) (vs : List Nat) (x : IE) (t : Tg) (c : IE) (xs : List D) (e : Env) (Q : D → Env → Prop) (_ : Bx Q := ⟨⟩) : Prop := wR (lcEnd vs e (lcGo (evF C x c) t vs xs e)) Q
def wpFor (C : Calls) (t : Tg) (b : ISs) (xs : List D) (e : Env) (Q : Fl → Env → Prop) (_ : Bx Q := ⟨⟩) : Prop := wR (forGo t (execs C b) xs e) Q
def wpWh (C : Calls) (c : IE) (b : ISs) (e : Env) (Q : Fl → Env → Prop) (_ : Bx Q := ⟨⟩) : Prop := wR (whileGo (ev C c) (execs C b) fuel e) Q
def thenS (C : Calls) (ss : ISs) (Q : Fl → Env → Prop) : Fl → Env → Prop := fun f e => match f with
  | .next => wpS C ss e Q
  | .ret o d => Q (.ret o d) e
section
variable {C : Calls} {e : Env} {a b c t : IE} {as : IEs} {Q : D → Env → Prop} {R : Fl → Env → Prop}
theorem wp_O {o : Option D} : wR (ofO o e) Q ↔ wO o fun d => Q d e := by
  cases o <;> simp [wR, wO, ofO, wR]
@[simp] theorem w_k {d : D} : wpE C (.k d) e Q ↔ Q d e := by simp [wR, wO, wpE, ev]
theorem w_v {i : Nat} : wpE C (.v i) e Q ↔ (match slot e i with | .val d => Q d e | .own d => Q d (e.set i (.val d)) | _ => False) := by
  unfold wpE
  simp only [ev]
  cases slot e i <;> simp [wR, wO]
@[simp] theorem w_b {i : Nat} : wpE C (.b i) e Q ↔ wO (rd e i) fun d => Q d e := by
  unfold wpE
  simp only [ev]
  exact wp_O
@[simp] theorem w_bin {op : Operator} : wpE C (.bin op a b) e Q ↔ wpE C a e fun x e1 => wpE C b e1 fun y e2 => wO ((rr a x e2).bind fun x' => dbin op x' y) fun d => Q d e2 := by
  unfold wpE
  simp only [ev]
  cases ev C a e with
  | ok x e1 =>
    simp only [wR]
    cases ev C b e1 with
    | ok y e2 => exact wp_O
    | exc c e2 => simp [wR, wO]
    | stuck => simp [wR, wO]
  | exc c e1 => simp [wR, wO]
  | stuck => simp [wR, wO]
@[simp] theorem w_neg : wpE C (.neg a) e Q ↔ wpE C a e fun x e1 => wO (int? x) fun i => Q (.int (-i)) e1 := by
  unfold wpE
  simp only [ev]
  cases ev C a e with
  | ok x e1 => cases h : int? x <;> simp [wR, wO, ofO, h]
  | exc c e1 => simp [wR, wO]
  | stuck => simp [wR, wO]
@[simp] theorem w_not : wpE C (.not a) e Q ↔ wpE C a e fun x e1 => wO (bool? x) fun i => Q (.bool (!i)) e1 := by
  unfold wpE
  simp only [ev]
  cases ev C a e with
  | ok x e1 => cases h : bool? x <;> simp [wR, wO, ofO, h]
  | exc c e1 => simp [wR, wO]
  | stuck => simp [wR, wO]
theorem w_and : wpE C (.and a b) e Q ↔ wpE C a e fun x e1 => wO (bool? x) fun i => (match i with | true => wpE C b e1 Q | false => Q (.bool false) e1) := by
  unfold wpE
  simp only [ev]
  cases ev C a e with
  | ok x e1 =>
    cases x with
    | bool i => cases i <;> simp [wR, wO, bool?]
    | _ => simp [wR, wO, bool?]
  | exc c e1 => simp [wR, wO]
  | stuck => simp [wR, wO]
theorem w_or : wpE C (.or a b) e Q ↔ wpE C a e fun x e1 => wO (bool? x) fun i => (match i with | false => wpE C b e1 Q | true => Q (.bool true) e1) := by
  unfold wpE
  simp only [ev]
  cases ev C a e with
  | ok x e1 =>
    cases x with
    | bool i => cases i <;> simp [wR, wO, bool?]
    | _ => simp [wR, wO, bool?]
  | exc c e1 => simp [wR, wO]
  | stuck => simp [wR, wO]
@[simp] theorem w_cmp {op : CmpOp} : wpE C (.cmp op a b) e Q ↔ wpE C a e fun x e1 => wpE C b e1 fun y e2 => wO ((rr a x e2).bind fun x' => dcmp op x' y) fun d => Q (.bool d) e2 := by
  unfold wpE
  simp only [ev]
  cases ev C a e with
  | ok x e1 =>
    simp only [wR]
    cases ev C b e1 with
    | ok y e2 =>
      cases h : rr a x e2 with
      | none => simp [wR, wO, ofO, h]
      | some x' => cases h2 : dcmp op x' y <;> simp [wR, wO, ofO, h, h2]
    | exc c e2 => simp [wR, wO]
    | stuck => simp [wR, wO]
  | exc c e1 => simp [wR, wO]
  | stuck => simp [wR, wO]
theorem w_cmp2 {op op' : CmpOp} : wpE C (.cmp2 op op' a b c) e Q ↔ wpE C a e fun x e1 => wpE C b e1 fun y e2 => wO (dcmp op x y) fun i => (match i with | true => wpE C c e2 fun z e3 => wO (dcmp op' y z) fun d => Q (.bool d) e3 | false => Q (.bool false) e2) := by
  unfold wpE
  simp only [ev]
  cases ev C a e with
  | ok x e1 =>
    simp only [wR]
    cases ev C b e1 with
    | ok y e2 =>
      cases h : dcmp op x y with
      | none => simp [wR, wO, h]
      | some i =>
        cases i with
        | false => simp [wR, wO, h]
        | true =>
          simp only [wR]
          cases ev C c e2 with
          | ok z e3 => cases h3 : dcmp op' y z <;> simp [wR, wO, ofO, h3, h]
          | exc c e3 => simp [wR, wO, h]
          | stuck => simp [wR, wO, h]
    | exc c e2 => simp [wR, wO]
    | stuck => simp [wR, wO]
  | exc c e1 => simp [wR, wO]
  | stuck => simp [wR, wO]
@[simp] theorem w_isN : wpE C (.isN a) e Q ↔ wpE C a e fun x e1 => Q (.bool (isNone x)) e1 := by
  unfold wpE
  simp only [ev]
  cases ev C a e <;> simp [wR, wO]
@[simp] theorem w_notN : wpE C (.notN a) e Q ↔ wpE C a e fun x e1 => Q (.bool (!isNone x)) e1 := by
  unfold wpE
  simp only [ev]
  cases ev C a e <;> simp [wR, wO]
theorem w_ite : wpE C (.ite t a b) e Q ↔ wpE C t e fun x e1 => wO (bool? x) fun i => (match i with | true => wpE C a e1 Q | false => wpE C b e1 Q) := by
  unfold wpE
  simp only [ev]
  cases ev C t e with
  | ok x e1 =>
    cases x with
    | bool i => cases i <;> simp [wR, wO, bool?]
    | _ => simp [wR, wO, bool?]
  | exc c e1 => simp [wR, wO]
  | stuck => simp [wR, wO]
@[simp] theorem w_call {f : String} : wpE C (.call f as) e Q ↔ wpEs C as e fun ds e1 => wpC C f ds .none fun d _ => Q d e1 := by
  unfold wpE wpEs wpC wCR
  simp only [ev]
  cases evs C as e with
  | ok ds e1 => cases h : C f ds .none <;> simp [wR, wO, h]
  | exc c e1 => simp [wR, wO]
  | stuck => simp [wR, wO]
@[simp] theorem w_callF {f : String} : wpE C (.callF f as) e Q ↔ wpEs C as e fun ds e1 => wpC C f ds .none fun d _ => Q d e1 := by
  unfold wpE wpEs wpC wCR
  simp only [ev]
  cases evs C as e with
  | ok ds e1 => cases h : C f ds .none <;> simp [wR, wO, h]
  | exc c e1 => simp [wR, wO]
  | stuck => simp [wR, wO]
theorem w_callS {f : String} {i : Nat} : wpE C (.callS f i as) e Q ↔ (ownD (slot e i)).isSome = true ∧ wpEs C as e fun ds e1 => wO (ownD (slot e1 i)) fun s => wpC C f ds s fun d s' => Q d (e1.set i (reOwn (slot e1 i) s')) := by
  unfold wpE wpEs wpC wCR
  simp only [ev]
  cases (ownD (slot e i)).isSome with
  | false => simp [wR, wO]
  | true =>
    simp only [if_true, true_and]
    cases evs C as e with
    | ok ds e1 =>
      cases h0 : ownD (slot e1 i) with
      | none => simp [wR, wO, h0]
      | some s => cases h : C f ds s <;> simp [wR, wO, h, h0]
    | exc c e1 => simp [wR, wO]
    | stuck => simp [wR, wO]
@[simp] theorem w_pr {p : Pr} : wpE C (.pr p a) e Q ↔ wpE C a e fun x e1 => wO (dpr p x) fun d => Q d e1 := by
  unfold wpE
  simp only [ev]
  cases ev C a e with
  | ok x e1 => exact wp_O
  | exc c e1 => simp [wR, wO]
  | stuck => simp [wR, wO]
@[simp] theorem w_lrg : wpE C (.lrg a) e Q ↔ wpE C a e fun x e1 => wO (int? x) fun n => smallR n = true ∧ Q (.list (rngL 0 n.toNat)) e1 := by
  unfold wpE
  simp only [ev]
  cases ev C a e with
  | ok x e1 =>
    cases h : int? x with
    | none => simp [wR, wO, ofO, h]
    | some n => cases h2 : smallR n <;> simp [wR, wO, ofO, h, h2]
  | exc c e1 => simp [wR, wO]
  | stuck => simp [wR, wO]
@[simp] theorem w_trg : wpE C (.trg a) e Q ↔ wpE C a e fun x e1 => wO (int? x) fun n => smallR n = true ∧ Q (.tuple (rngL 0 n.toNat)) e1 := by
  unfold wpE
  simp only [ev]
  cases ev C a e with
  | ok x e1 =>
    cases h : int? x with
    | none => simp [wR, wO, ofO, h]
    | some n => cases h2 : smallR n <;> simp [wR, wO, ofO, h, h2]
  | exc c e1 => simp [wR, wO]
  | stuck => simp [wR, wO]
@[simp] theorem w_lrg2 : wpE C (.lrg2 a b) e Q ↔ wpE C a e fun x e1 => wpE C b e1 fun y e2 => wO (int? x) fun m => wO (int? y) fun n => (smallR m && smallR n) = true ∧ Q (.list (rngL m (n - m).toNat)) e2 := by
  unfold wpE
  simp only [ev]
  cases ev C a e with
  | ok x e1 =>
    simp only [wR]
    cases ev C b e1 with
    | ok y e2 =>
      cases h : int? x with
      | none => simp [wR, wO, ofO, h]
      | some m =>
        cases h2 : int? y with
        | none => simp [wR, wO, ofO, h, h2]
        | some n => cases h3 : (smallR m && smallR n) <;> simp [wR, wO, ofO, h, h2, h3, -Bool.and_eq_true]
    | exc c e2 => simp [wR, wO]
    | stuck => simp [wR, wO]
  | exc c e1 => simp [wR, wO]
  | stuck => simp [wR, wO]
@[simp] theorem w_min2 : wpE C (.min2 a b) e Q ↔ wpE C a e fun x e1 => wpE C b e1 fun y e2 => wO (int? x) fun i => wO (int? y) fun j => Q (.int (if j < i then j else i)) e2 := by
  unfold wpE
  simp only [ev]
  cases ev C a e with
  | ok x e1 =>
    simp only [wR]
    cases ev C b e1 with
    | ok y e2 => cases h : int? x <;> cases h2 : int? y <;> simp [wR, wO, ofO, h, h2]
    | exc c e2 => simp [wR, wO]
    | stuck => simp [wR, wO]
  | exc c e1 => simp [wR, wO]
  | stuck => simp [wR, wO]
@[simp] theorem w_max2 : wpE C (.max2 a b) e Q ↔ wpE C a e fun x e1 => wpE C b e1 fun y e2 => wO (int? x) fun i => wO (int? y) fun j => Q (.int (if j > i then j else i)) e2 := by
  unfold wpE
  simp only [ev]
  cases ev C a e with
  | ok x e1 =>
    simp only [wR]
    cases ev C b e1 with
    | ok y e2 => cases h : int? x <;> cases h2 : int? y <;> simp [wR, wO, ofO, h, h2]
    | exc c e2 => simp [wR, wO]
    | stuck => simp [wR, wO]
  | exc c e1 => simp [wR, wO]
  | stuck => simp [wR, wO]
@[simp] theorem w_isi {ts : List Ty} : wpE C (.isi a ts) e Q ↔ wpE C a e fun x e1 => isDct x = false ∧ Q (.bool (ts.any (isTy x))) e1 := by
  unfold wpE
  simp only [ev]
  cases ev C a e with
  | ok x e1 => cases h : isDct x <;> simp [wR, wO, h]
  | exc c e1 => simp [wR, wO]
  | stuck => simp [wR, wO]
@[simp] theorem w_ix : wpE C (.ix a b) e Q ↔ wpE C a e fun x e1 => wpE C b e1 fun y e2 => wO ((rr a x e2).bind fun x' => dix x' y) fun d => Q d e2 := by
  unfold wpE
  simp only [ev]
  cases ev C a e with
  | ok x e1 =>
    simp only [wR]
    cases ev C b e1 with
    | ok y e2 => exact wp_O
    | exc c e2 => simp [wR, wO]
    | stuck => simp [wR, wO]
  | exc c e1 => simp [wR, wO]
  | stuck => simp [wR, wO]
@[simp] theorem w_slu : wpE C (.slu a b) e Q ↔ wpE C a e fun x e1 => wpE C b e1 fun y e2 => wO ((rr a x e2).bind fun x' => (int? y).bind fun j => dsl x' none (some j)) fun d => Q d e2 := by
  unfold wpE
  simp only [ev]
  cases ev C a e with
  | ok x e1 =>
    simp only [wR]
    cases ev C b e1 with
    | ok y e2 => exact wp_O
    | exc c e2 => simp [wR, wO]
    | stuck => simp [wR, wO]
  | exc c e1 => simp [wR, wO]
  | stuck => simp [wR, wO]
@[simp] theorem w_sll : wpE C (.sll a b) e Q ↔ wpE C a e fun x e1 => wpE C b e1 fun y e2 => wO ((rr a x e2).bind fun x' => (int? y).bind fun j => dsl x' (some j) none) fun d => Q d e2 := by
  unfold wpE
  simp only [ev]
  cases ev C a e with
  | ok x e1 =>
    simp only [wR]
    cases ev C b e1 with
    | ok y e2 => exact wp_O
    | exc c e2 => simp [wR, wO]
    | stuck => simp [wR, wO]
  | exc c e1 => simp [wR, wO]
  | stuck => simp [wR, wO]
@[simp] theorem w_slb : wpE C (.slb a b c) e Q ↔ wpE C a e fun x e1 => wpE C b e1 fun y e2 => wO (int? y) fun j => wpE C c e2 fun z e3 => wO ((rr a x e3).bind fun x' => (int? z).bind fun l => dsl x' (some j) (some l)) fun d => Q d e3 := by
  unfold wpE
  simp only [ev]
  cases ev C a e with
  | ok x e1 =>
    simp only [wR]
    cases ev C b e1 with
    | ok y e2 =>
      cases h : int? y with
      | none => simp [wR, wO, h]
      | some j =>
        simp only [wR]
        cases ev C c e2 with
        | ok z e3 => (simp only [h, if_true, true_and, wO]; exact wp_O)
        | exc c e3 => simp [wR, wO, h]
        | stuck => simp [wR, wO, h]
    | exc c e2 => simp [wR, wO]
    | stuck => simp [wR, wO]
  | exc c e1 => simp [wR, wO]
  | stuck => simp [wR, wO]
@[simp] theorem w_rev : wpE C (.rev a) e Q ↔ wpE C a e fun x e1 => wO (drev x) fun d => Q d e1 := by
  unfold wpE
  simp only [ev]
  cases ev C a e with
  | ok x e1 => exact wp_O
  | exc c e1 => simp [wR, wO]
  | stuck => simp [wR, wO]
@[simp] theorem w_index : wpE C (.index a b) e Q ↔ wpE C a e fun x e1 => isTy x .tuple = true ∧ wpE C b e1 fun y e2 => wO (dindex x y) fun d => Q d e2 := by
  unfold wpE
  simp only [ev]
  cases ev C a e with
  | ok x e1 =>
    simp only [wR]
    cases h : isTy x .tuple with
    | false => simp [wR, wO, h]
    | true =>
      cases h2 : ev C b e1 with
      | ok y e2 => (simp only [h, h2, if_true, true_and, wO]; exact wp_O)
      | exc c e2 => simp [wR, wO, h, h2]
      | stuck => simp [wR, wO, h, h2]
  | exc c e1 => simp [wR, wO]
  | stuck => simp [wR, wO]
@[simp] theorem w_lst : wpE C (.lst as) e Q ↔ wpEs C as e fun ds e1 => Q (.list ds) e1 := by
  unfold wpE wpEs
  simp only [ev]
  cases evs C as e <;> simp [wR, wO]
@[simp] theorem w_tup : wpE C (.tup as) e Q ↔ wpEs C as e fun ds e1 => Q (.tuple ds) e1 := by
  unfold wpE wpEs
  simp only [ev]
  cases evs C as e <;> simp [wR, wO]
@[simp] theorem w_lc {vs : List Nat} {x : IE} {tg : Tg} {it : It} : wpE C (.lc vs x tg it) e Q ↔ wpI C it e fun xs e1 => noOwn e1 vs = true ∧ isLong xs = true ∧ wpL C vs x tg xs e1 Q := by
  unfold wpE wpI wpL
  rw [ev_lc]
  cases evIt C it e with
  | ok xs e1 =>
    simp only [lcRun]
    cases h : noOwn e1 vs <;> cases h2 : isLong xs <;> simp [wR, wO, h, h2]
  | exc c e1 => simp [wR, wO, lcRun]
  | stuck => simp [wR, wO, lcRun]
@[simp] theorem w_lcf {vs : List Nat} {x : IE} {tg : Tg} {it : It} {c : IE} : wpE C (.lcf vs x tg it c) e Q ↔ wpI C it e fun xs e1 => noOwn e1 vs = true ∧ isLong xs = true ∧ wpLF C vs x tg c xs e1 Q := by
  unfold wpE wpI wpLF
  rw [ev_lcf]
  cases evIt C it e with
  | ok xs e1 =>
    simp only [lcRun]
    cases h : noOwn e1 vs <;> cases h2 : isLong xs <;> simp [wR, wO, h, h2]
  | exc c e1 => simp [wR, wO, lcRun]
  | stuck => simp [wR, wO, lcRun]
def popIQ (i : Nat) (x : D) (e1 : Env) (Q : D → Env → Prop) : Prop := match ownD (slot e1 i), x with
  | some (.list xs), .int j => wO (atD xs j) fun y => 0 ≤ j ∧ Q y (e1.set i (reOwn (slot e1 i) (.list (xs.eraseIdx j.toNat))))
  | _, _ => False
def popQ (i : Nat) (e : Env) (Q : D → Env → Prop) : Prop := match ownD (slot e i) with
  | some (.list xs) => wO xs.getLast? fun y => Q y (e.set i (reOwn (slot e i) (.list xs.dropLast)))
  | _ => False
def itemsQ (x : D) (Q : List D → Prop) : Prop := match x with
  | .dict kvs => Q (kvs.map fun p => .tuple [p.1, p.2])
  | _ => False
theorem w_popI {i : Nat} : wpE C (.popI i a) e Q ↔ ownL (slot e i) = true ∧ wpE C a e fun x e1 => popIQ i x e1 Q := by
  unfold wpE
  simp only [ev]
  cases ownL (slot e i) with
  | false => simp [wR, wO]
  | true =>
    simp only [if_true, true_and]
    cases ev C a e with
    | ok x e1 =>
      simp only [wR]
      cases h : ownD (slot e1 i) with
      | none => simp [wR, wO, popIQ, popQ, h]
      | some l =>
        cases l with
        | list xs =>
          cases x with
          | int j =>
            cases h2 : atD xs j with
            | none => simp [wR, wO, popIQ, h, h2]
            | some y => by_cases h3 : 0 ≤ j <;> simp [wR, wO, popIQ, h, h2, h3]
          | _ => simp [wR, wO, popIQ, popQ, h]
        | _ => simp [wR, wO, popIQ, popQ, h]
    | exc c e1 => simp [wR, wO]
    | stuck => simp [wR, wO]
theorem w_pop {i : Nat} : wpE C (.pop i) e Q ↔ popQ i e Q := by
  unfold wpE
  simp only [ev]
  cases h : ownD (slot e i) with
  | none => simp [wR, wO, popIQ, popQ, h]
  | some l =>
    cases l with
    | list xs => cases h2 : xs.getLast? <;> simp [wR, wO, popIQ, popQ, h, h2]
    | _ => simp [wR, wO, popIQ, popQ, h]
@[simp] theorem w_dnew : wpE C .dnew e Q ↔ Q (.dict []) e := by simp [wR, wO, wpE, ev]
@[simp] theorem w_dsp : wpE C (.dsp a b) e Q ↔ wpE C a e fun x e1 => wpE C b e1 fun y e2 => (keyN 8 x && isTup x) = true ∧ Q (.dict [(x, y)]) e2 := by
  unfold wpE
  simp only [ev]
  cases ev C a e with
  | ok x e1 =>
    simp only [wR]
    cases ev C b e1 with
    | ok y e2 => cases h : (keyN 8 x && isTup x) <;> simp_all [wR]
    | exc c e2 => simp [wR, wO]
    | stuck => simp [wR, wO]
  | exc c e1 => simp [wR, wO]
  | stuck => simp [wR, wO]
@[simp] theorem w_get1 : wpE C (.get1 a b) e Q ↔ wpE C a e fun x e1 => isDct x = true ∧ wpE C b e1 fun y e2 => wO ((rr a x e2).bind fun x' => dget x' y .none) fun d => Q d e2 := by
  unfold wpE
  simp only [ev]
  cases ev C a e with
  | ok x e1 =>
    simp only [wR]
    cases h : isDct x with
    | false => simp [wR, wO, h]
    | true =>
      cases h2 : ev C b e1 with
      | ok y e2 => (simp only [h, h2, if_true, true_and, wO]; exact wp_O)
      | exc c e2 => simp [wR, wO, h, h2]
      | stuck => simp [wR, wO, h, h2]
  | exc c e1 => simp [wR, wO]
  | stuck => simp [wR, wO]
@[simp] theorem w_get2 : wpE C (.get2 a b c) e Q ↔ wpE C a e fun x e1 => isDct x = true ∧ wpE C b e1 fun y e2 => wpE C c e2 fun z e3 => wO ((rr a x e3).bind fun x' => dget x' y z) fun d => Q d e3 := by
  unfold wpE
  simp only [ev]
  cases ev C a e with
  | ok x e1 =>
    simp only [wR]
    cases h : isDct x with
    | false => simp [wR, wO, h]
    | true =>
      cases h2 : ev C b e1 with
      | ok y e2 =>
        simp only [h, h2, wR, if_true]
        cases h3 : ev C c e2 with
        | ok z e3 => (simp only [h, h3, if_true, true_and, wO]; exact wp_O)
        | exc c e3 => simp [wR, wO, h, h3]
        | stuck => simp [wR, wO, h, h3]
      | exc c e2 => simp [wR, wO, h, h2]
      | stuck => simp [wR, wO, h, h2]
  | exc c e1 => simp [wR, wO]
  | stuck => simp [wR, wO]
@[simp] theorem w_dzip : wpE C (.dzip a b) e Q ↔ wpE C a e fun x e1 => wpE C b e1 fun y e2 => wO (dzipD x y) fun d => Q d e2 := by
  unfold wpE
  simp only [ev]
  cases ev C a e with
  | ok x e1 =>
    simp only [wR]
    cases ev C b e1 with
    | ok y e2 => exact wp_O
    | exc c e2 => simp [wR, wO]
    | stuck => simp [wR, wO]
  | exc c e1 => simp [wR, wO]
  | stuck => simp [wR, wO]
@[simp] theorem w_join {s : Str} : wpE C (.join s a) e Q ↔ wpE C a e fun x e1 => wO (joinD s x) fun d => Q d e1 := by
  unfold wpE
  simp only [ev]
  cases ev C a e with
  | ok x e1 => exact wp_O
  | exc c e1 => simp [wR, wO]
  | stuck => simp [wR, wO]
@[simp] theorem w_n {Q : List D → Env → Prop} : wpEs C .nil e Q ↔ Q [] e := by simp [wR, wO, wpEs, evs]
@[simp] theorem w_c {Q : List D → Env → Prop} : wpEs C (.cons a as) e Q ↔ wpE C a e fun d e1 => wpEs C as e1 fun ds e2 => Q (d :: ds) e2 := by
  unfold wpE wpEs
  simp only [evs]
  cases ev C a e with
  | ok d e1 =>
    simp only [wR]
    cases evs C as e1 <;> simp [wR, wO]
  | exc c e1 => simp [wR, wO]
  | stuck => simp [wR, wO]
@[simp] theorem w_ie {Q : List D → Env → Prop} : wpI C (.e a) e Q ↔ wpE C a e fun x e1 => wO (iter? x) fun xs => Q xs e1 := by
  unfold wpE wpI
  simp only [evIt]
  cases ev C a e with
  | ok x e1 => cases h : iter? x <;> simp [wR, wO, h]
  | exc c e1 => simp [wR, wO]
  | stuck => simp [wR, wO]
@[simp] theorem w_items {Q : List D → Env → Prop} : wpI C (.items a) e Q ↔ wpE C a e fun x e1 => itemsQ x (fun xs => Q xs e1) := by
  unfold wpE wpI
  simp only [evIt]
  cases ev C a e with
  | ok x e1 => cases x <;> simp [wR, wO, itemsQ]
  | exc c e1 => simp [wR, wO, itemsQ]
  | stuck => simp [wR, wO, itemsQ]
@[simp] theorem w_r1 {Q : List D → Env → Prop} : wpI C (.r1 a) e Q ↔ wpE C a e fun x e1 => wO (int? x) fun n => smallI n = true ∧ Q (rngL 0 n.toNat) e1 := by
  unfold wpE wpI
  simp only [evIt]
  cases ev C a e with
  | ok x e1 =>
    cases x with
    | int n => cases h : smallI n <;> simp [wR, wO, int?, h]
    | _ => simp [wR, wO, int?]
  | exc c e1 => simp [wR, wO]
  | stuck => simp [wR, wO]
@[simp] theorem w_r2 {Q : List D → Env → Prop} : wpI C (.r2 a b) e Q ↔ wpE C a e fun x e1 => wO (int? x) fun m => wpE C b e1 fun y e2 => wO (int? y) fun n => (smallI m && smallI n) = true ∧ Q (rngL m (n - m).toNat) e2 := by
  unfold wpE wpI
  simp only [evIt]
  cases ev C a e with
  | ok x e1 =>
    cases x with
    | int m =>
      simp only [int?, wR, wO]
      cases ev C b e1 with
      | ok y e2 =>
        cases y with
        | int n => cases h : (smallI m && smallI n) <;> simp [wR, wO, h, -Bool.and_eq_true]
        | _ => simp [wR, wO, int?]
      | exc c e2 => simp [wR, wO]
      | stuck => simp [wR, wO]
    | _ => simp [wR, wO, int?]
  | exc c e1 => simp [wR, wO]
  | stuck => simp [wR, wO]
@[simp] theorem w_r3 {Q : List D → Env → Prop} : wpI C (.r3 a b c) e Q ↔ wpE C a e fun x e1 => wO (int? x) fun m => wpE C b e1 fun y e2 => wO (int? y) fun n => wpE C c e2 fun z e3 => z = .int (-1) ∧ (smallI m && smallI n) = true ∧ Q (rngC m (-1) (m - n).toNat) e3 := by
  unfold wpE wpI
  simp only [evIt]
  cases ev C a e with
  | ok x e1 =>
    cases x with
    | int m =>
      simp only [int?, wR, wO]
      cases ev C b e1 with
      | ok y e2 =>
        cases y with
        | int n =>
          simp only [int?, wR, wO]
          cases ev C c e2 with
          | ok z e3 =>
            cases z with
            | int l =>
              by_cases hl : l = -1
              · subst hl
                cases h : (smallI m && smallI n) <;> simp_all [wR]
              · simp [wR, wO, hl]
            | _ => simp [wR, wO]
          | exc c e3 => simp [wR, wO]
          | stuck => simp [wR, wO]
        | _ => simp [wR, wO, int?]
      | exc c e2 => simp [wR, wO]
      | stuck => simp [wR, wO]
    | _ => simp [wR, wO, int?]
  | exc c e1 => simp [wR, wO]
  | stuck => simp [wR, wO]
@[simp] theorem w_zip {Q : List D → Env → Prop} : wpI C (.zip a b) e Q ↔ wpE C a e fun x e1 => wpE C b e1 fun y e2 => wO (items? x) fun xs => wO (items? y) fun ys => Q ((xs.zip ys).map fun p => .tuple [p.1, p.2]) e2 := by
  unfold wpE wpI
  simp only [evIt]
  cases ev C a e with
  | ok x e1 =>
    simp only [wR]
    cases ev C b e1 with
    | ok y e2 => cases h : items? x <;> cases h2 : items? y <;> simp [wR, wO, h, h2]
    | exc c e2 => simp [wR, wO]
    | stuck => simp [wR, wO]
  | exc c e1 => simp [wR, wO]
  | stuck => simp [wR, wO]
@[simp] theorem w_enum {Q : List D → Env → Prop} : wpI C (.enum a) e Q ↔ wpE C a e fun x e1 => wO (items? x) fun xs => Q (xs.zipIdx.map fun p => .tuple [.int (p.2 : Nat), p.1]) e1 := by
  unfold wpE wpI
  simp only [evIt]
  cases ev C a e with
  | ok x e1 => cases h : items? x <;> simp [wR, wO, h]
  | exc c e1 => simp [wR, wO]
  | stuck => simp [wR, wO]
end
end BT
namespace BT
open PySem
theorem wR_imp {α : Type} {r : Res α} {Q Q' : α → Env → Prop} (h : wR r Q) (i : ∀ a e, Q a e → Q' a e) : wR r Q' := by
  unfold wR at *
  split at h
  · exact i _ _ h
  · exact h.elim
theorem wR_ex {α : Type} {r : Res α} {Q : α → Env → Prop} : wR r Q ↔ ∃ a e, r = .ok a e ∧ Q a e := by
  unfold wR
  cases r with
  | ok a e => exact ⟨fun h => ⟨a, e, rfl, h⟩, fun ⟨a', e', h, q⟩ => by cases h; exact q⟩
  | exc c e => exact ⟨fun h => h.elim, fun ⟨a', e', h, q⟩ => by cases h⟩
  | stuck => exact ⟨fun h => h.elim, fun ⟨a', e', h, q⟩ => by cases h⟩
theorem wO_ex {α : Type} {o : Option α} {Q : α → Prop} : wO o Q ↔ ∃ a, o = some a ∧ Q a := by
  cases o with
  | none => exact ⟨fun h => h.elim, fun ⟨a, h, _⟩ => by cases h⟩
  | some a => exact ⟨fun h => ⟨a, rfl, h⟩, fun ⟨b, h, q⟩ => by cases h; exact q⟩
theorem wC_eq {C : Calls} {f : String} {ds : List D} {s d s' : D} (h : C f ds s = .ok d s') {Q : D → D → Prop} : wpC C f ds s Q = Q d s' := by
  unfold wpC wCR
  rw [h]
theorem wC_ex {C : Calls} {f : String} {ds : List D} {s : D} {Q : D → D → Prop} : wpC C f ds s Q ↔ ∃ d s', C f ds s = .ok d s' ∧ Q d s' := by
  unfold wpC wCR
  cases C f ds s with
  | ok a e => exact ⟨fun h => ⟨a, e, rfl, h⟩, fun ⟨a', e', h, q⟩ => by cases h; exact q⟩
  | exc c e => exact ⟨fun h => h.elim, fun ⟨a', e', h, q⟩ => by cases h⟩
  | stuck => exact ⟨fun h => h.elim, fun ⟨a', e', h, q⟩ => by cases h⟩
theorem wC_of {C : Calls} {f : String} {ds : List D} {s : D} {P Q : D → D → Prop} (h : wpC C f ds s P) (i : ∀ d s', P d s' → Q d s') : wpC C f ds s Q := by
  obtain ⟨d, s', e, p⟩ := wC_ex.mp h
  exact wC_ex.mpr ⟨d, s', e, i _ _ p⟩
/-- a call whose end is told as an equation -/
theorem wC_is {C : Calls} {f : String} {ds : List D} {s d s' : D} (h : wpC C f ds s fun d' s'' => d' = d ∧ s'' = s') : C f ds s = .ok d s' := by
  obtain ⟨d', s'', e, rfl, rfl⟩ := wC_ex.mp h
  exact e
section
variable {C : Calls} {e : Env} {a b c t : IE} {ss : ISs} {R : Fl → Env → Prop}
@[simp] theorem w_sn : wpS C .nil e R ↔ R .next e := ⟨id, id⟩
theorem wS_c {s : IS} : wpS C (.cons s ss) e R ↔ wR (exec C s e) (thenS C ss R) := by
  unfold wpS
  simp only [execs]
  cases exec C s e with
  | ok f e1 => cases f <;> simp [wR, thenS, wpS]
  | exc c e1 => simp [wR]
  | stuck => simp [wR]
@[simp] theorem w_asg {i : Nat} : wpS C (.cons (.asg i a) ss) e R ↔ wpE C a e fun d e1 => wpS C ss (e1.set i (mkSlot (freshE a) d)) R := by
  rw [wS_c]
  unfold wpE
  simp only [exec]
  cases ev C a e <;> rfl
@[simp] theorem w_asgT {t : Tg} : wpS C (.cons (.asgT t a) ss) e R ↔ wpE C a e fun d e1 => wO (bindT t d e1) fun e2 => wpS C ss e2 R := by
  rw [wS_c]
  unfold wpE
  simp only [exec]
  cases ev C a e with
  | ok d e1 => cases h : bindT t d e1 <;> simp [wR, wO, thenS, h]
  | exc c e1 => simp [wR]
  | stuck => simp [wR]
@[simp] theorem w_asg2 {i j : Nat} : wpS C (.cons (.asg2 i j a b) ss) e R ↔ wpE C a e fun x e1 => wpE C b e1 fun y e2 => wpS C ss ((e2.set i (mkSlot (freshE a) x)).set j (mkSlot (freshE b) y)) R := by
  rw [wS_c]
  unfold wpE
  simp only [exec]
  cases ev C a e with
  | ok d e1 =>
    simp only [wR]
    cases ev C b e1 <;> rfl
  | exc c e1 => rfl
  | stuck => rfl
@[simp] theorem w_asg3 {i j l : Nat} : wpS C (.cons (.asg3 i j l a b c) ss) e R ↔ wpE C a e fun x e1 => wpE C b e1 fun y e2 => wpE C c e2 fun z e3 => wpS C ss (((e3.set i (mkSlot (freshE a) x)).set j (.val y)).set l (mkSlot (freshE c) z)) R := by
  rw [wS_c]
  unfold wpE
  simp only [exec]
  cases ev C a e with
  | ok d e1 =>
    simp only [wR]
    cases ev C b e1 with
    | ok y e2 =>
      simp only
      cases ev C c e2 <;> rfl
    | exc c e2 => rfl
    | stuck => rfl
  | exc c e1 => rfl
  | stuck => rfl
def setIQ (i : Nat) (d y : D) (e2 : Env) (K : Env → Prop) : Prop :=
  match ownD (slot e2 i), y with
  | some (.list xs), .int j => (atD xs j).isSome = true ∧ K (e2.set i (reOwn (slot e2 i) (.list (xs.set (if 0 ≤ j then j.toNat else (j + xs.length).toNat) d))))
  | some (.dict kvs), k => (kOk kvs k = true ∧ kvs.length < big) ∧ K (e2.set i (reOwn (slot e2 i) (.dict (dstore kvs k d))))
  | _, _ => False
theorem w_setI {i : Nat} : wpS C (.cons (.setI i b a) ss) e R ↔ wpE C a e fun d e1 => (ownD (slot e1 i)).isSome = true ∧ wpE C b e1 fun y e2 => setIQ i d y e2 fun e3 => wpS C ss e3 R := by
  rw [wS_c]
  unfold wpE
  simp only [exec]
  cases ev C a e with
  | ok d e1 =>
    simp only [wR]
    cases h : (ownD (slot e1 i)).isSome with
    | false => simp
    | true =>
      simp only [if_true, true_and]
      cases ev C b e1 with
      | ok y e2 =>
        simp only [setIQ]
        cases h2 : ownD (slot e2 i) with
        | none => simp
        | some l =>
          cases l with
          | list xs =>
            cases y with
            | int j => cases h3 : atD xs j <;> simp [thenS, h3]
            | _ => simp
          | dict kvs =>
            cases h3 : (kOk kvs y && decide (kvs.length < big)) with
            | false =>
              have : ¬ (kOk kvs y = true ∧ kvs.length < big) := by simpa using h3
              simp [this]
            | true =>
              have : kOk kvs y = true ∧ kvs.length < big := by simpa using h3
              simp [this, thenS]
          | _ => simp
      | exc c e2 => simp
      | stuck => simp
  | exc c e1 => simp [wR]
  | stuck => simp [wR]
def augQ (i : Nat) (op : Operator) (a : IE) (C : Calls) (e : Env) (K : Env → Prop) : Prop :=
  match slot e i with
  | .val (.int x) => wpE C a e fun y e1 => wO (augI op x y) fun z => K (e1.set i (.val z))
  | .own (.list _) => wpE C a e fun y e1 => match op, ownD (slot e1 i), items? y with
    | .Add, some (.list xs), some ys => isLong (xs ++ ys) = true ∧ K (e1.set i (reOwn (slot e1 i) (.list (xs ++ ys))))
    | _, _, _ => False
  | _ => False
theorem w_aug {i : Nat} {op : Operator} : wpS C (.cons (.aug i op a) ss) e R ↔ augQ i op a C e fun e3 => wpS C ss e3 R := by
  rw [wS_c]
  unfold augQ wpE
  simp only [exec]
  cases h : slot e i with
  | val d =>
    cases d with
    | int x =>
      simp only
      cases ev C a e with
      | ok y e1 => cases h2 : augI op x y <;> simp [wR, wO, thenS, h2]
      | exc c e1 => simp [wR]
      | stuck => simp [wR]
    | _ => simp [wR]
  | own d =>
    cases d with
    | list xs =>
      simp only
      cases ev C a e with
      | ok y e1 =>
        simp only [wR, augL]
        cases h2 : ownD (slot e1 i) with
        | none => cases op <;> simp
        | some l =>
          cases l with
          | list xs =>
            cases h3 : items? y with
            | none => cases op <;> simp
            | some ys => cases op <;> cases h4 : isLong (xs ++ ys) <;> simp [thenS, h4]
          | _ => cases op <;> simp
      | exc c e1 => simp [wR]
      | stuck => simp [wR]
    | _ => simp [wR]
  | _ => simp [wR]
def appQ (i : Nat) (y : D) (e1 : Env) (K : Env → Prop) : Prop := match ownD (slot e1 i) with
  | some (.list xs) => xs.length < big ∧ K (e1.set i (reOwn (slot e1 i) (.list (xs ++ [y]))))
  | _ => False
theorem w_app {i : Nat} : wpS C (.cons (.app i a) ss) e R ↔ ownL (slot e i) = true ∧ wpE C a e fun y e1 => appQ i y e1 fun e2 => wpS C ss e2 R := by
  rw [wS_c]
  unfold wpE
  simp only [exec]
  cases ownL (slot e i) with
  | false => simp [wR]
  | true =>
    simp only [if_true, true_and]
    cases ev C a e with
    | ok y e1 =>
      simp only [wR]
      cases h : ownD (slot e1 i) with
      | none => simp [appQ, h]
      | some l =>
        cases l with
        | list xs => by_cases h2 : xs.length < big <;> simp [appQ, thenS, h, h2]
        | _ => simp [appQ, h]
    | exc c e1 => simp [wR]
    | stuck => simp [wR]
@[simp] theorem w_for {t : Tg} {it : It} {b : ISs} : wpS C (.cons (.for_ t it b) ss) e R ↔ wpI C it e fun xs e1 => wpFor C t b xs e1 (thenS C ss R) := by
  rw [wS_c]
  unfold wpI wpFor
  simp only [exec]
  cases evIt C it e with
  | ok xs e1 =>
    simp only [wR]
  | exc c e1 => simp [wR]
  | stuck => simp [wR]
@[simp] theorem w_while {b : ISs} : wpS C (.cons (.while_ t b) ss) e R ↔ wpWh C t b e (thenS C ss R) := by
  rw [wS_c]
  unfold wpWh
  simp only [exec]
theorem w_if {x y : ISs} : wpS C (.cons (.if_ t x y) ss) e R ↔ wpE C t e fun d e1 => wO (bool? d) fun i => (match i with | true => wpS C x e1 (thenS C ss R) | false => wpS C y e1 (thenS C ss R)) := by
  rw [wS_c]
  unfold wpE
  simp only [exec]
  cases ev C t e with
  | ok d e1 =>
    cases d with
    | bool i => cases i <;> simp [wR, wO, bool?, wpS]
    | _ => simp [wR, wO, bool?]
  | exc c e1 => simp [wR]
  | stuck => simp [wR]
@[simp] theorem w_ret : wpS C (.cons (.ret a) ss) e R ↔ wpE C a e fun d e1 => R (.ret false d) e1 := by
  rw [wS_c]
  unfold wpE
  simp only [exec]
  cases ev C a e <;> rfl
@[simp] theorem w_retF : wpS C (.cons (.retF a) ss) e R ↔ wpE C a e fun d e1 => (freshE a && (isTy d .list || isDct d)) = true ∧ R (.ret true d) e1 := by
  rw [wS_c]
  unfold wpE
  simp only [exec]
  cases ev C a e with
  | ok d e1 => cases h : (freshE a && (isTy d .list || isDct d)) <;> simp [wR, thenS, h, -Bool.and_eq_true]
  | exc c e1 => simp [wR]
  | stuck => simp [wR]
theorem w_retO {i : Nat} : wpS C (.cons (.retO i) ss) e R ↔ (match slot e i with | .own d => R (.ret true d) (e.set i .no) | _ => False) := by
  rw [wS_c]
  simp only [exec]
  cases h : slot e i <;> simp [wR, thenS]
@[simp] theorem w_ex : wpS C (.cons (.ex a) ss) e R ↔ wpE C a e fun _ e1 => wpS C ss e1 R := by
  rw [wS_c]
  unfold wpE
  simp only [exec]
  cases ev C a e <;> rfl
@[simp] theorem w_pass : wpS C (.cons .pass ss) e R ↔ wpS C ss e R := by
  rw [wS_c]
  simp only [exec]
  rfl
@[simp] theorem w_th_n {Q : Fl → Env → Prop} : thenS C ss Q .next e = wpS C ss e Q := id rfl
@[simp] theorem w_th_r {Q : Fl → Env → Prop} {o : Bool} {d : D} : thenS C ss Q (.ret o d) e = Q (.ret o d) e := id rfl
/-! defs -/
def retQ (fn : Fn) (Q : D → D → Prop) : Fl → Env → Prop := fun f e => wO (selfOf fn e) fun s' => (match f with
  | .ret o d => o = fn.fresh ∧ Q d s'
  | .next => fn.fresh = false ∧ Q .none s')
theorem wC_run {T : Tab} {k : Nat} {f : String} {fn : Fn} {ds : List D} {s : D} {Q : D → D → Prop} (hT : T f = some fn) (h : ds.length = fn.ps) (hs : wpS (callk T k) fn.body (envOf fn ds s) (retQ fn Q)) : wpC (callk T (k + 1)) f ds s Q := by
  unfold wpC
  rw [callk_s hT]
  unfold runFn
  rw [if_pos h]
  obtain ⟨r, e, h1, h23⟩ := wR_ex.mp hs
  obtain ⟨s', h2, h3⟩ := wO_ex.mp h23
  rw [h1]
  cases r with
  | next =>
    simp only [h2]
    rw [if_neg (by rw [h3.1]; exact Bool.false_ne_true)]
    exact h3.2
  | ret o d =>
    simp only [h2]
    rw [if_pos (by rw [h3.1]; exact beq_self_eq_true _)]
    exact h3.2
theorem wC_runk {T : Tab} {k : Nat} (hk : 1 ≤ k) {f : String} {fn : Fn} {ds : List D} {s : D} {Q : D → D → Prop} (hT : T f = some fn) (h : ds.length = fn.ps) (hs : ∀ j, k = j + 1 → wpS (callk T j) fn.body (envOf fn ds s) (retQ fn Q)) : wpC (callk T k) f ds s Q := by
  obtain ⟨j, rfl⟩ : ∃ j, k = j + 1 := ⟨k - 1, by omega⟩
  exact wC_run hT h (hs j rfl)
/-! loops -/
/-- one turn -/
def turnS (C : Calls) (t : Tg) (b : ISs) (x : D) (e : Env) (R : Fl → Env → Prop) : Prop := ∃ e1, bindT t x e = some e1 ∧ wpS C b e1 R
theorem for_wp {t : Tg} {b : ISs} (I : Nat → Env → Prop) {xs : List D} (h0 : I 0 e) (h : ∀ (i : Nat) (hi : i < xs.length) e, I i e → turnS C t b xs[i] e fun f e2 => f = .next ∧ I (i + 1) e2) (fin : ∀ e, I xs.length e → R .next e) : wpFor C t b xs e R := by
  obtain ⟨e', h1, h2⟩ := for_inv (t := t) (body := execs C b) I xs (fun i hi e he => by
    obtain ⟨e1, h1, h2⟩ := h i hi e he
    obtain ⟨f, e2, h3, rfl, h4⟩ := wR_ex.mp h2
    exact ⟨e1, e2, h1, h3, h4⟩) e h0
  unfold wpFor
  rw [h1]
  exact fin e' h2
/-- a loop that may end with a value -/
theorem for_wpR {t : Tg} {b : ISs} (I : Nat → Env → Prop) {xs : List D} : ∀ {n : Nat} {e : Env}, n ≤ xs.length → I n e → (∀ (i : Nat) (hi : i < xs.length) e, I i e → turnS C t b xs[i] e fun f e2 => (f = .next ∧ I (i + 1) e2) ∨ (∃ o d, f = .ret o d ∧ R f e2)) → (∀ e, I xs.length e → R .next e) → wpFor C t b (xs.drop n) e R := by
  intro n e hn h0 h fin
  obtain ⟨m, hm⟩ : ∃ m, n + m = xs.length := ⟨xs.length - n, by omega⟩
  induction m generalizing n e with
  | zero =>
    have : n = xs.length := by omega
    subst this
    rw [List.drop_length]
    exact fin e h0
  | succ m ih =>
    have hlt : n < xs.length := by omega
    rw [List.drop_eq_getElem_cons hlt]
    obtain ⟨e1, h1, h2⟩ := h n hlt e h0
    obtain ⟨f, e2, h3, h4⟩ := wR_ex.mp h2
    unfold wpFor forGo
    rw [h1]
    simp only [h3]
    rcases h4 with ⟨rfl, h4⟩ | ⟨o, d, rfl, h4⟩
    · exact ih (by omega) h4 (by omega)
    · exact h4
theorem for_wpR0 {t : Tg} {b : ISs} (I : Nat → Env → Prop) {xs : List D} (h0 : I 0 e) (h : ∀ (i : Nat) (hi : i < xs.length) e, I i e → turnS C t b xs[i] e fun f e2 => (f = .next ∧ I (i + 1) e2) ∨ (∃ o d, f = .ret o d ∧ R f e2)) (fin : ∀ e, I xs.length e → R .next e) : wpFor C t b xs e R := by
  have := for_wpR (C := C) (R := R) (t := t) (b := b) I (Nat.zero_le xs.length) h0 h fin
  rwa [List.drop_zero] at this
/-- a loop over coded items, its state st coded by E -/
theorem for_fold {α σ : Type} {t : Tg} {b : ISs} (enc : α → D) (E : σ → Env) (f : σ → α → σ) (P : σ → Prop) : ∀ (l : List α) (s0 : σ), P s0 → (∀ a ∈ l, ∀ s, P s → turnS C t b (enc a) (E s) fun fl e2 => fl = .next ∧ e2 = E (f s a) ∧ P (f s a)) → R .next (E (l.foldl f s0)) → wpFor C t b (l.map enc) (E s0) R
  | [], s0, _, _, fin => fin
  | a :: l, s0, p, h, fin => by
    obtain ⟨e1, h1, h2⟩ := h a List.mem_cons_self s0 p
    obtain ⟨fl, e2, h3, rfl, rfl, h4⟩ := wR_ex.mp h2
    unfold wpFor
    rw [List.map_cons]
    unfold forGo
    rw [h1]
    simp only [h3]
    exact for_fold enc E f P l _ h4 (fun a ha => h a (List.mem_cons_of_mem _ ha)) fin
/-- while: n turns -/
theorem while_wp {b : ISs} (I : Nat → Env → Prop) (n : Nat) (hn : n < fuel) (h0 : I 0 e) (h : ∀ i, i < n → ∀ e, I i e → wpE C t e fun d e1 => d = .bool true ∧ wpS C b e1 fun f e2 => f = .next ∧ I (i + 1) e2) (hl : ∀ e, I n e → wpE C t e fun d e1 => d = .bool false ∧ R .next e1) : wpWh C t b e R := by
  have gen : ∀ (m i k : Nat) (e : Env), i + m = n → m < k → I i e → wR (whileGo (ev C t) (execs C b) k e) R := by
    intro m
    induction m with
    | zero =>
      intro i k e hi hk he
      have hi : i = n := by omega
      subst hi
      obtain ⟨k, rfl⟩ : ∃ j, k = j + 1 := ⟨k - 1, by omega⟩
      obtain ⟨d, e1, h1, rfl, h2⟩ := wR_ex.mp (hl e he)
      unfold whileGo
      rw [h1]
      exact h2
    | succ m ih =>
      intro i k e hi hk he
      obtain ⟨k, rfl⟩ : ∃ j, k = j + 1 := ⟨k - 1, by omega⟩
      obtain ⟨d, e1, h1, rfl, h2⟩ := wR_ex.mp (h i (by omega) e he)
      obtain ⟨f, e2, h3, rfl, h4⟩ := wR_ex.mp h2
      unfold whileGo
      rw [h1]
      simp only [h3]
      exact ih (i + 1) k e2 (by omega) (by omega) h4
  exact gen n 0 fuel e (by omega) hn h0
/-! comprehensions -/
theorem lc_wp {α : Type} {vs : List Nat} {x : IE} {tg : Tg} {R : D → Env → Prop} {l : List α} {enc : α → D} (g : α → D) (h : ∀ a ∈ l, ∃ e1, bindT tg (enc a) (wipeE e vs) = some e1 ∧ wpE C x e1 fun d e2 => d = g a ∧ wipeE e2 vs = wipeE e vs ∧ e2.length = e.length) (fin : R (.list (l.map g)) e) : wpL C vs x tg (l.map enc) e R := by
  unfold wpL
  have key : lcEnd vs e (lcGo (evT C x) tg vs (l.map enc) e) = .ok (.list (l.map g)) e := by
    have gen : ∀ l : List α, (∀ a ∈ l, ∃ e1, bindT tg (enc a) (wipeE e vs) = some e1 ∧ wpE C x e1 fun d e2 => d = g a ∧ wipeE e2 vs = wipeE e vs ∧ e2.length = e.length) → ∀ e0, wipeE e0 vs = wipeE e vs → e0.length = e.length → ∃ e', lcGo (evT C x) tg vs (l.map enc) e0 = .ok (l.map g) e' ∧ wipeE e' vs = wipeE e vs ∧ e'.length = e.length := by
      intro l
      induction l with
      | nil => intro _ e0 h0 hl; exact ⟨e0, rfl, h0, hl⟩
      | cons a l ih =>
        intro h e0 h0 hl
        obtain ⟨e1, h1, h2⟩ := h a List.mem_cons_self
        obtain ⟨d, e2, h3, rfl, h4, h5⟩ := wR_ex.mp h2
        obtain ⟨e', h6, h7⟩ := ih (fun a ha => h a (List.mem_cons_of_mem _ ha)) e2 h4 h5
        refine ⟨e', ?_, h7⟩
        rw [List.map_cons]
        unfold lcGo
        rw [h0, h1]
        simp only [evT, h3]
        rw [h6]
        rfl
    obtain ⟨e', h1, h2, h3⟩ := gen l h e rfl rfl
    rw [h1]
    show Res.ok _ (backE e e' vs) = _
    rw [wipeE_get h2 e h3, backE_self]
  rw [key]
  exact fin
theorem lcf_wp {α : Type} {vs : List Nat} {x c : IE} {tg : Tg} {R : D → Env → Prop} {l : List α} {enc : α → D} (p : α → Bool) (g : α → D)
    (h : ∀ a ∈ l, ∃ e1, bindT tg (enc a) (wipeE e vs) = some e1 ∧ wpE C c e1 fun d e2 => d = .bool (p a) ∧ (if p a = true then wpE C x e2 fun d e3 => d = g a ∧ wipeE e3 vs = wipeE e vs ∧ e3.length = e.length else wipeE e2 vs = wipeE e vs ∧ e2.length = e.length)) (fin : R (.list ((l.filter p).map g)) e) : wpLF C vs x tg c (l.map enc) e R := by
  unfold wpLF
  have key : lcEnd vs e (lcGo (evF C x c) tg vs (l.map enc) e) = .ok (.list ((l.filter p).map g)) e := by
    have gen : ∀ l : List α, (∀ a ∈ l, ∃ e1, bindT tg (enc a) (wipeE e vs) = some e1 ∧ wpE C c e1 fun d e2 => d = .bool (p a) ∧ (if p a = true then wpE C x e2 fun d e3 => d = g a ∧ wipeE e3 vs = wipeE e vs ∧ e3.length = e.length else wipeE e2 vs = wipeE e vs ∧ e2.length = e.length)) → ∀ e0, wipeE e0 vs = wipeE e vs → e0.length = e.length → ∃ e', lcGo (evF C x c) tg vs (l.map enc) e0 = .ok ((l.filter p).map g) e' ∧ wipeE e' vs = wipeE e vs ∧ e'.length = e.length := by
      intro l
      induction l with
      | nil => intro _ e0 h0 hl; exact ⟨e0, rfl, h0, hl⟩
      | cons a l ih =>
        intro h e0 h0 hl
        obtain ⟨e1, h1, h2⟩ := h a List.mem_cons_self
        obtain ⟨d, e2, h3, rfl, h4⟩ := wR_ex.mp h2
        cases hp : p a with
        | false =>
          rw [hp] at h4 h3
          simp only [Bool.false_eq_true, if_false] at h4
          obtain ⟨e', h6, h7⟩ := ih (fun a ha => h a (List.mem_cons_of_mem _ ha)) e2 h4.1 h4.2
          refine ⟨e', ?_, h7⟩
          rw [List.map_cons, List.filter_cons_of_neg (by rw [hp]; exact Bool.false_ne_true)]
          unfold lcGo
          rw [h0, h1]
          simp only [evF, h3]
          rw [h6]
        | true =>
          rw [hp] at h4 h3
          simp only [if_true] at h4
          obtain ⟨d, e3, h5, rfl, h8, h9⟩ := wR_ex.mp h4
          obtain ⟨e', h6, h7⟩ := ih (fun a ha => h a (List.mem_cons_of_mem _ ha)) e3 h8 h9
          refine ⟨e', ?_, h7⟩
          rw [List.map_cons, List.filter_cons_of_pos hp, List.map_cons]
          unfold lcGo
          rw [h0, h1]
          simp only [evF, h3, h5]
          rw [h6]
    obtain ⟨e', h1, h2, h3⟩ := gen l h e rfl rfl
    rw [h1]
    show Res.ok _ (backE e e' vs) = _
    rw [wipeE_get h2 e h3, backE_self]
  rw [key]
  exact fin
/-- a comprehension whose turns change places -/
theorem lc_wpI {vs : List Nat} {x : IE} {tg : Tg} {R : D → Env → Prop} {xs : List D} (I : Nat → List D → Env → Prop) (h0 : I 0 [] e)
    (h : ∀ (i : Nat) (hi : i < xs.length) acc e, I i acc e → ∃ e1, bindT tg xs[i] (wipeE e vs) = some e1 ∧ wpE C x e1 fun d e2 => I (i + 1) (acc ++ [d]) e2) (fin : ∀ ys e2, I xs.length ys e2 → R (.list ys) (backE e e2 vs)) : wpL C vs x tg xs e R := by
  obtain ⟨ys, e3, h1, h2⟩ := lcGo_inv (f := evT C x) (t := tg) (vs := vs) I xs (fun i hi acc e he => by
    obtain ⟨e1, g1, g2⟩ := h i hi acc e he
    obtain ⟨d, e2, g3, g4⟩ := wR_ex.mp g2
    exact ⟨e1, some d, e2, g1, by simp only [evT, g3], g4⟩) e h0
  unfold wpL
  rw [h1]
  exact fin ys e3 h2
theorem lcf_wpI {vs : List Nat} {x c : IE} {tg : Tg} {R : D → Env → Prop} {xs : List D} (I : Nat → List D → Env → Prop) (h0 : I 0 [] e)
    (h : ∀ (i : Nat) (hi : i < xs.length) acc e, I i acc e → ∃ e1, bindT tg xs[i] (wipeE e vs) = some e1 ∧ wpE C c e1 fun d e2 => ∃ b, d = .bool b ∧ (match b with | true => wpE C x e2 fun d e3 => I (i + 1) (acc ++ [d]) e3 | false => I (i + 1) acc e2)) (fin : ∀ ys e2, I xs.length ys e2 → R (.list ys) (backE e e2 vs)) : wpLF C vs x tg c xs e R := by
  obtain ⟨ys, e3, h1, h2⟩ := lcGo_inv (f := evF C x c) (t := tg) (vs := vs) I xs (fun i hi acc e he => by
    obtain ⟨e1, g1, g2⟩ := h i hi acc e he
    obtain ⟨d, e2, g3, b, rfl, g4⟩ := wR_ex.mp g2
    cases b with
    | false => exact ⟨e1, none, e2, g1, by simp only [evF, g3], by simpa using g4⟩
    | true =>
      obtain ⟨d, e3, g5, g6⟩ := wR_ex.mp g4
      exact ⟨e1, some d, e3, g1, by simp only [evF, g3, g5], g6⟩) e h0
  unfold wpLF
  rw [h1]
  exact fin ys e3 h2
end
end BT
namespace BT
open PySem
/-! ## the operations, evaluated (plain rules for simp) -/
section
variable {x d d2 d3 : D} {e : Env} {a b c : IE} {as : IEs} {i j : Nat} {op : Operator} {co co2 : CmpOp} {f : String} {p : Pr} {ts : List Ty} {vs : List Nat} {tg t1 t2 t3 : Tg} {it : It} {st st2 : Str} {q : Bool} {n m : Int} {xs ys : List D} {kvs : List (D × D)} {sl : Slot} {lo hi : Option Int} {QL : List D → Prop}
@[simp] theorem rr_k : rr (.k d) x e = some x := id rfl
@[simp] theorem rr_v : rr (.v i) x e = some x := id rfl
@[simp] theorem rr_bin : rr (.bin op a b) x e = some x := id rfl
@[simp] theorem rr_neg : rr (.neg a) x e = some x := id rfl
@[simp] theorem rr_not : rr (.not a) x e = some x := id rfl
@[simp] theorem rr_and : rr (.and a b) x e = some x := id rfl
@[simp] theorem rr_or : rr (.or a b) x e = some x := id rfl
@[simp] theorem rr_cmp : rr (.cmp co a b) x e = some x := id rfl
@[simp] theorem rr_cmp2 : rr (.cmp2 co co2 a b c) x e = some x := id rfl
@[simp] theorem rr_isN : rr (.isN a) x e = some x := id rfl
@[simp] theorem rr_notN : rr (.notN a) x e = some x := id rfl
@[simp] theorem rr_ite : rr (.ite a b c) x e = some x := id rfl
@[simp] theorem rr_call : rr (.call f as) x e = some x := id rfl
@[simp] theorem rr_callF : rr (.callF f as) x e = some x := id rfl
@[simp] theorem rr_callB : rr (.callB f i as) x e = some x := id rfl
@[simp] theorem rr_callS : rr (.callS f i as) x e = some x := id rfl
@[simp] theorem rr_pr : rr (.pr p a) x e = some x := id rfl
@[simp] theorem rr_lrg : rr (.lrg a) x e = some x := id rfl
@[simp] theorem rr_trg : rr (.trg a) x e = some x := id rfl
@[simp] theorem rr_lrg2 : rr (.lrg2 a b) x e = some x := id rfl
@[simp] theorem rr_min2 : rr (.min2 a b) x e = some x := id rfl
@[simp] theorem rr_max2 : rr (.max2 a b) x e = some x := id rfl
@[simp] theorem rr_isi : rr (.isi a ts) x e = some x := id rfl
@[simp] theorem rr_ix : rr (.ix a b) x e = some x := id rfl
@[simp] theorem rr_slu : rr (.slu a b) x e = some x := id rfl
@[simp] theorem rr_sll : rr (.sll a b) x e = some x := id rfl
@[simp] theorem rr_slb : rr (.slb a b c) x e = some x := id rfl
@[simp] theorem rr_rev : rr (.rev a) x e = some x := id rfl
@[simp] theorem rr_index : rr (.index a b) x e = some x := id rfl
@[simp] theorem rr_lst : rr (.lst as) x e = some x := id rfl
@[simp] theorem rr_tup : rr (.tup as) x e = some x := id rfl
@[simp] theorem rr_lc : rr (.lc vs a tg it) x e = some x := id rfl
@[simp] theorem rr_lcf : rr (.lcf vs a tg it b) x e = some x := id rfl
@[simp] theorem rr_popI : rr (.popI i a) x e = some x := id rfl
@[simp] theorem rr_pop : rr (.pop i) x e = some x := id rfl
@[simp] theorem rr_dnew : rr .dnew x e = some x := id rfl
@[simp] theorem rr_dsp : rr (.dsp a b) x e = some x := id rfl
@[simp] theorem rr_get1 : rr (.get1 a b) x e = some x := id rfl
@[simp] theorem rr_get2 : rr (.get2 a b c) x e = some x := id rfl
@[simp] theorem rr_dzip : rr (.dzip a b) x e = some x := id rfl
@[simp] theorem rr_join : rr (.join st a) x e = some x := id rfl
@[simp] theorem rr_b : rr (.b i) x e = rd e i := id rfl
@[simp] theorem fr_k : freshE (.k d) = false := id rfl
@[simp] theorem fr_v : freshE (.v i) = false := id rfl
@[simp] theorem fr_neg : freshE (.neg a) = false := id rfl
@[simp] theorem fr_not : freshE (.not a) = false := id rfl
@[simp] theorem fr_and : freshE (.and a b) = false := id rfl
@[simp] theorem fr_or : freshE (.or a b) = false := id rfl
@[simp] theorem fr_cmp : freshE (.cmp co a b) = false := id rfl
@[simp] theorem fr_cmp2 : freshE (.cmp2 co co2 a b c) = false := id rfl
@[simp] theorem fr_isN : freshE (.isN a) = false := id rfl
@[simp] theorem fr_notN : freshE (.notN a) = false := id rfl
@[simp] theorem fr_ite : freshE (.ite a b c) = false := id rfl
@[simp] theorem fr_call : freshE (.call f as) = false := id rfl
@[simp] theorem fr_callF : freshE (.callF f as) = true := id rfl
@[simp] theorem fr_callB : freshE (.callB f i as) = false := id rfl
@[simp] theorem fr_callS : freshE (.callS f i as) = false := id rfl
@[simp] theorem fr_lrg : freshE (.lrg a) = true := id rfl
@[simp] theorem fr_trg : freshE (.trg a) = false := id rfl
@[simp] theorem fr_lrg2 : freshE (.lrg2 a b) = true := id rfl
@[simp] theorem fr_min2 : freshE (.min2 a b) = false := id rfl
@[simp] theorem fr_max2 : freshE (.max2 a b) = false := id rfl
@[simp] theorem fr_isi : freshE (.isi a ts) = false := id rfl
@[simp] theorem fr_ix : freshE (.ix a b) = false := id rfl
@[simp] theorem fr_slu : freshE (.slu a b) = true := id rfl
@[simp] theorem fr_sll : freshE (.sll a b) = true := id rfl
@[simp] theorem fr_slb : freshE (.slb a b c) = true := id rfl
@[simp] theorem fr_rev : freshE (.rev a) = true := id rfl
@[simp] theorem fr_index : freshE (.index a b) = false := id rfl
@[simp] theorem fr_lst : freshE (.lst as) = true := id rfl
@[simp] theorem fr_tup : freshE (.tup as) = false := id rfl
@[simp] theorem fr_lc : freshE (.lc vs a tg it) = true := id rfl
@[simp] theorem fr_lcf : freshE (.lcf vs a tg it b) = true := id rfl
@[simp] theorem fr_popI : freshE (.popI i a) = false := id rfl
@[simp] theorem fr_pop : freshE (.pop i) = false := id rfl
@[simp] theorem fr_dnew : freshE .dnew = true := id rfl
@[simp] theorem fr_dsp : freshE (.dsp a b) = true := id rfl
@[simp] theorem fr_get1 : freshE (.get1 a b) = false := id rfl
@[simp] theorem fr_get2 : freshE (.get2 a b c) = false := id rfl
@[simp] theorem fr_dzip : freshE (.dzip a b) = true := id rfl
@[simp] theorem fr_join : freshE (.join st a) = false := id rfl
@[simp] theorem fr_b : freshE (.b i) = false := id rfl
@[simp] theorem fr_bin_Add : freshE (.bin .Add a b) = true := id rfl
@[simp] theorem fr_bin_Mult : freshE (.bin .Mult a b) = true := id rfl
@[simp] theorem fr_bin_Sub : freshE (.bin .Sub a b) = false := id rfl
@[simp] theorem fr_bin_FloorDiv : freshE (.bin .FloorDiv a b) = false := id rfl
@[simp] theorem fr_bin_Mod : freshE (.bin .Mod a b) = false := id rfl
@[simp] theorem fr_bin_Pow : freshE (.bin .Pow a b) = false := id rfl
@[simp] theorem fr_pr_len : freshE (.pr .len a) = false := id rfl
@[simp] theorem fr_pr_abs : freshE (.pr .abs a) = false := id rfl
@[simp] theorem fr_pr_sum : freshE (.pr .sum a) = false := id rfl
@[simp] theorem fr_pr_all : freshE (.pr .all a) = false := id rfl
@[simp] theorem fr_pr_any : freshE (.pr .any a) = false := id rfl
@[simp] theorem fr_pr_min : freshE (.pr .min a) = false := id rfl
@[simp] theorem fr_pr_max : freshE (.pr .max a) = false := id rfl
@[simp] theorem fr_pr_sorted : freshE (.pr .sorted a) = true := id rfl
@[simp] theorem fr_pr_list : freshE (.pr .list a) = true := id rfl
@[simp] theorem fr_pr_tuple : freshE (.pr .tuple a) = false := id rfl
@[simp] theorem fr_pr_lenset : freshE (.pr .lenset a) = false := id rfl
@[simp] theorem fr_pr_sortset : freshE (.pr .sortset a) = true := id rfl
@[simp] theorem fr_pr_int : freshE (.pr .int a) = false := id rfl
@[simp] theorem fr_pr_strI : freshE (.pr .strI a) = false := id rfl
@[simp] theorem ms_none : mkSlot true .none = .val .none := id rfl
@[simp] theorem ms_bool : mkSlot true (.bool q) = .val (.bool q) := id rfl
@[simp] theorem ms_int : mkSlot true (.int n) = .val (.int n) := id rfl
@[simp] theorem ms_str : mkSlot true (.str st) = .val (.str st) := id rfl
@[simp] theorem ms_list : mkSlot true (.list xs) = .own (.list xs) := id rfl
@[simp] theorem ms_tuple : mkSlot true (.tuple xs) = .val (.tuple xs) := id rfl
@[simp] theorem ms_dict : mkSlot true (.dict kvs) = .own (.dict kvs) := id rfl
@[simp] theorem ms_f : mkSlot false d = .val d := id rfl
@[simp] theorem isd_none : isDct .none = false := id rfl
@[simp] theorem ist_none : isTup .none = false := id rfl
@[simp] theorem isn_none : isNone .none = true := id rfl
@[simp] theorem ty_none_bool : isTy .none .bool = false := id rfl
@[simp] theorem ty_none_int : isTy .none .int = false := id rfl
@[simp] theorem ty_none_str : isTy .none .str = false := id rfl
@[simp] theorem ty_none_list : isTy .none .list = false := id rfl
@[simp] theorem ty_none_tuple : isTy .none .tuple = false := id rfl
@[simp] theorem isd_bool : isDct (.bool q) = false := id rfl
@[simp] theorem ist_bool : isTup (.bool q) = false := id rfl
@[simp] theorem isn_bool : isNone (.bool q) = false := id rfl
@[simp] theorem ty_bool_bool : isTy (.bool q) .bool = true := id rfl
@[simp] theorem ty_bool_int : isTy (.bool q) .int = true := id rfl
@[simp] theorem ty_bool_str : isTy (.bool q) .str = false := id rfl
@[simp] theorem ty_bool_list : isTy (.bool q) .list = false := id rfl
@[simp] theorem ty_bool_tuple : isTy (.bool q) .tuple = false := id rfl
@[simp] theorem isd_int : isDct (.int n) = false := id rfl
@[simp] theorem ist_int : isTup (.int n) = false := id rfl
@[simp] theorem isn_int : isNone (.int n) = false := id rfl
@[simp] theorem ty_int_bool : isTy (.int n) .bool = false := id rfl
@[simp] theorem ty_int_int : isTy (.int n) .int = true := id rfl
@[simp] theorem ty_int_str : isTy (.int n) .str = false := id rfl
@[simp] theorem ty_int_list : isTy (.int n) .list = false := id rfl
@[simp] theorem ty_int_tuple : isTy (.int n) .tuple = false := id rfl
@[simp] theorem isd_str : isDct (.str st) = false := id rfl
@[simp] theorem ist_str : isTup (.str st) = false := id rfl
@[simp] theorem isn_str : isNone (.str st) = false := id rfl
@[simp] theorem ty_str_bool : isTy (.str st) .bool = false := id rfl
@[simp] theorem ty_str_int : isTy (.str st) .int = false := id rfl
@[simp] theorem ty_str_str : isTy (.str st) .str = true := id rfl
@[simp] theorem ty_str_list : isTy (.str st) .list = false := id rfl
@[simp] theorem ty_str_tuple : isTy (.str st) .tuple = false := id rfl
@[simp] theorem isd_list : isDct (.list xs) = false := id rfl
@[simp] theorem ist_list : isTup (.list xs) = false := id rfl
@[simp] theorem isn_list : isNone (.list xs) = false := id rfl
@[simp] theorem ty_list_bool : isTy (.list xs) .bool = false := id rfl
@[simp] theorem ty_list_int : isTy (.list xs) .int = false := id rfl
@[simp] theorem ty_list_str : isTy (.list xs) .str = false := id rfl
@[simp] theorem ty_list_list : isTy (.list xs) .list = true := id rfl
@[simp] theorem ty_list_tuple : isTy (.list xs) .tuple = false := id rfl
@[simp] theorem isd_tuple : isDct (.tuple xs) = false := id rfl
@[simp] theorem ist_tuple : isTup (.tuple xs) = true := id rfl
@[simp] theorem isn_tuple : isNone (.tuple xs) = false := id rfl
@[simp] theorem ty_tuple_bool : isTy (.tuple xs) .bool = false := id rfl
@[simp] theorem ty_tuple_int : isTy (.tuple xs) .int = false := id rfl
@[simp] theorem ty_tuple_str : isTy (.tuple xs) .str = false := id rfl
@[simp] theorem ty_tuple_list : isTy (.tuple xs) .list = false := id rfl
@[simp] theorem ty_tuple_tuple : isTy (.tuple xs) .tuple = true := id rfl
@[simp] theorem isd_dict : isDct (.dict kvs) = true := id rfl
@[simp] theorem ist_dict : isTup (.dict kvs) = false := id rfl
@[simp] theorem isn_dict : isNone (.dict kvs) = false := id rfl
@[simp] theorem ty_dict_bool : isTy (.dict kvs) .bool = false := id rfl
@[simp] theorem ty_dict_int : isTy (.dict kvs) .int = false := id rfl
@[simp] theorem ty_dict_str : isTy (.dict kvs) .str = false := id rfl
@[simp] theorem ty_dict_list : isTy (.dict kvs) .list = false := id rfl
@[simp] theorem ty_dict_tuple : isTy (.dict kvs) .tuple = false := id rfl
@[simp] theorem int_i : int? (.int n) = some n := id rfl
@[simp] theorem bool_b : bool? (.bool q) = some q := id rfl
@[simp] theorem own_o : ownD (.own d) = some d := id rfl
@[simp] theorem own_i : ownD (.inp d) = some d := id rfl
@[simp] theorem own_v : ownD (.val d) = none := id rfl
@[simp] theorem own_n : ownD .no = none := id rfl
@[simp] theorem ownL_o : ownL (.own (.list xs)) = true := id rfl
@[simp] theorem ownL_i : ownL (.inp (.list xs)) = true := id rfl
@[simp] theorem reo_o : reOwn (.own d) d2 = .own d2 := id rfl
@[simp] theorem reo_i : reOwn (.inp d) d2 = .inp d2 := id rfl
@[simp] theorem slot_z : slot (sl :: e) 0 = sl := id rfl
@[simp] theorem slot_s : slot (sl :: e) (j + 1) = slot e j := by unfold slot; simp
def rdS : Slot → Option D
  | .val d => some d
  | .own d => some d
  | .inp d => some d
  | .no => none
@[simp] theorem rd_eq : rd e i = rdS (slot e i) := by unfold rd rdS; cases slot e i <;> rfl
@[simp] theorem rdS_val : rdS (.val d) = some d := id rfl
@[simp] theorem rdS_own : rdS (.own d) = some d := id rfl
@[simp] theorem rdS_inp : rdS (.inp d) = some d := id rfl
@[simp] theorem db_add : dbin .Add (.int n) (.int m) = some (.int (n + m)) := id rfl
@[simp] theorem db_sub : dbin .Sub (.int n) (.int m) = some (.int (n - m)) := id rfl
@[simp] theorem db_mul : dbin .Mult (.int n) (.int m) = if mulOk n m then some (.int (n * m)) else none := id rfl
@[simp] theorem db_fdiv : dbin .FloorDiv (.int n) (.int m) = if dvOk m then some (.int (n / m)) else none := id rfl
@[simp] theorem db_mod : dbin .Mod (.int n) (.int m) = if decide (0 < m) then some (.int (n % m)) else none := id rfl
@[simp] theorem db_pow : dbin .Pow (.int n) (.int m) = if decide (0 ≤ m ∧ m ≤ 1000000 ∧ n.natAbs < 18446744073709551616) then some (.int (n ^ m.toNat)) else none := id rfl
@[simp] theorem db_cat : dbin .Add (.list xs) (.list ys) = if isLong (xs ++ ys) then some (.list (xs ++ ys)) else none := id rfl
@[simp] theorem db_catT : dbin .Add (.tuple xs) (.tuple ys) = if isLong (xs ++ ys) then some (.tuple (xs ++ ys)) else none := id rfl
@[simp] theorem db_rep : dbin .Mult (.list xs) (.int m) = if decide (0 ≤ m ∧ m ≤ 1000 ∧ xs.length ≤ 1000) then some (.list (List.replicate m.toNat xs).flatten) else none := id rfl
@[simp] theorem db_repT : dbin .Mult (.tuple xs) (.int m) = if decide (1 ≤ m ∧ m ≤ 1000 ∧ xs.length ≤ 1000 ∧ xs.length ≠ 0) then some (.tuple (List.replicate m.toNat xs).flatten) else none := id rfl
@[simp] theorem dc_Lt : dcmp .Lt (.int n) (.int m) = some (decide (n < m)) := id rfl
@[simp] theorem dc_LtE : dcmp .LtE (.int n) (.int m) = some (decide (n ≤ m)) := id rfl
@[simp] theorem dc_Gt : dcmp .Gt (.int n) (.int m) = some (decide (m < n)) := id rfl
@[simp] theorem dc_GtE : dcmp .GtE (.int n) (.int m) = some (decide (m ≤ n)) := id rfl
@[simp] theorem dc_eqI : dcmp .Eq (.int n) (.int m) = some (decide (n = m)) := by show (if okEq (.int n) (.int m) then some (PyData.eqv (.int n) (.int m)) else none) = _; simp [okEq, PyData.plain, PyData.depth, PyData.eqv]; rfl
@[simp] theorem dc_neI : dcmp .NotEq (.int n) (.int m) = some (!decide (n = m)) := by show (if okEq (.int n) (.int m) then some (!PyData.eqv (.int n) (.int m)) else none) = _; simp [okEq, PyData.plain, PyData.depth, PyData.eqv]; rfl
@[simp] theorem dc_eqS : dcmp .Eq (.str st) (.str st2) = some (decide (st = st2)) := by show (if okEq (.str st) (.str st2) then some (PyData.eqv (.str st) (.str st2)) else none) = _; simp [okEq, PyData.plain, PyData.depth, PyData.eqv]; rfl
theorem dc_eq : dcmp .Eq d d2 = if okEq d d2 then some (PyData.eqv d d2) else none := id rfl
theorem dc_ne : dcmp .NotEq d d2 = if okEq d d2 then some (!PyData.eqv d d2) else none := id rfl
@[simp] theorem dc_is {r : Bool} : dcmp .Is (.bool q) (.bool r) = some (q == r) := id rfl
@[simp] theorem dc_isnt {r : Bool} : dcmp .IsNot (.bool q) (.bool r) = some (!(q == r)) := id rfl
@[simp] theorem dc_in : dcmp .In d d2 = din d d2 := id rfl
@[simp] theorem dc_nin : dcmp .NotIn d d2 = (din d d2).map fun b => !b := id rfl
theorem di_l : din d (.list xs) = if okIn d xs then some (xs.any fun y => PyData.eqv y d) else none := id rfl
theorem di_t : din d (.tuple xs) = if okIn d xs then some (xs.any fun y => PyData.eqv y d) else none := id rfl
@[simp] theorem di_d : din d (.dict kvs) = if kOk kvs d then some (dlook kvs d).isSome else none := id rfl
@[simp] theorem dp_len_l : dpr .len (.list xs) = some (.int (xs.length : Nat)) := id rfl
@[simp] theorem dp_sorted_l : dpr .sorted (.list xs) = sortQ true xs (ints? xs) := id rfl
@[simp] theorem sortQ_s {l : Bool} {ns : List Int} : sortQ l xs (some ns) = some (.list ((sortI ns).map PyData.int)) := id rfl
@[simp] theorem minQ_s {ns : List Int} : minQ xs (some ns) = (minI ns).map PyData.int := id rfl
@[simp] theorem dp_list_l : dpr .list (.list xs) = some (.list xs) := id rfl
@[simp] theorem dp_tuple_l : dpr .tuple (.list xs) = some (.tuple xs) := id rfl
@[simp] theorem dx_l : dix (.list xs) (.int n) = atD xs n := id rfl
@[simp] theorem ds_l : dsl (.list xs) lo hi = some (.list (cutD xs lo hi)) := id rfl
@[simp] theorem dr_l : drev (.list xs) = some (.list xs.reverse) := id rfl
@[simp] theorem dp_len_t : dpr .len (.tuple xs) = some (.int (xs.length : Nat)) := id rfl
@[simp] theorem dp_sorted_t : dpr .sorted (.tuple xs) = sortQ false xs (ints? xs) := id rfl
@[simp] theorem dp_list_t : dpr .list (.tuple xs) = some (.list xs) := id rfl
@[simp] theorem dp_tuple_t : dpr .tuple (.tuple xs) = some (.tuple xs) := id rfl
@[simp] theorem dx_t : dix (.tuple xs) (.int n) = atD xs n := id rfl
@[simp] theorem ds_t : dsl (.tuple xs) lo hi = some (.tuple (cutD xs lo hi)) := id rfl
@[simp] theorem dr_t : drev (.tuple xs) = some (.tuple xs.reverse) := id rfl
@[simp] theorem dp_len_s : dpr .len (.str st) = if decide (st.length ≤ 1000) then some (.int (st.length : Nat)) else none := id rfl
@[simp] theorem dp_abs : dpr .abs (.int n) = some (.int (if n < 0 then -n else n)) := id rfl
@[simp] theorem dp_sum : dpr .sum (.list xs) = (ints? xs).map fun ns => .int ns.sum := id rfl
@[simp] theorem dp_all : dpr .all (.list xs) = (bools? xs).map fun bs => .bool (bs.all id) := id rfl
@[simp] theorem dp_any : dpr .any (.list xs) = (bools? xs).map fun bs => .bool (bs.any id) := id rfl
@[simp] theorem dp_min : dpr .min (.list xs) = minQ xs (ints? xs) := id rfl
@[simp] theorem dp_max : dpr .max (.list xs) = (ints? xs).bind fun ns => (maxI ns).map PyData.int := id rfl
@[simp] theorem dp_maxt : dpr .max (.tuple xs) = (ints? xs).bind fun ns => (maxI ns).map PyData.int := id rfl
@[simp] theorem dp_lenset : dpr .lenset (.tuple xs) = if decide (xs.length ≤ 4000) then (ints? xs).map fun ns => .int ((dd ns).length : Nat) else none := id rfl
@[simp] theorem dp_sortset : dpr .sortset (.tuple xs) = if decide (xs.length ≤ 60) then (ints? xs).map fun ns => .list ((sortI (dd ns)).map PyData.int) else none := id rfl
@[simp] theorem dp_int : dpr .int (.int n) = some (.int n) := id rfl
@[simp] theorem dp_intb : dpr .int (.bool q) = some (.int (if q then 1 else 0)) := id rfl
@[simp] theorem dp_str : dpr .strI (.int n) = if decide (n.natAbs.log2 < 1920) then some (.str (strI n)) else none := id rfl
@[simp] theorem dx_d : dix (.dict kvs) d = if kOk kvs d then dlook kvs d else none := id rfl
@[simp] theorem dx_s : dix (.str st) (.int n) = if decide (st.length ≤ 1000) then atD (chs st) n else none := id rfl
@[simp] theorem dg_d : dget (.dict kvs) d d2 = if kOk kvs d then some ((dlook kvs d).getD d2) else none := id rfl
@[simp] theorem it_l : iter? (.list xs) = some xs := id rfl
@[simp] theorem it_t : iter? (.tuple xs) = some xs := id rfl
@[simp] theorem it_d : iter? (.dict kvs) = some (kvs.map (·.1)) := id rfl
@[simp] theorem it_s : iter? (.str st) = if decide (st.length ≤ 1000) then some (chs st) else none := id rfl
@[simp] theorem im_l : items? (.list xs) = some xs := id rfl
@[simp] theorem im_t : items? (.tuple xs) = some xs := id rfl
@[simp] theorem itq : itemsQ (.dict kvs) QL = QL (kvs.map fun p => .tuple [p.1, p.2]) := id rfl
@[simp] theorem at_0 : atD (d :: xs) 0 = some d := by unfold atD; simp
@[simp] theorem at_1 : atD (d :: d2 :: xs) 1 = some d2 := by unfold atD; simp; omega
@[simp] theorem at_2 : atD (d :: d2 :: d3 :: xs) 2 = some d3 := by unfold atD; simp; omega
@[simp] theorem at_n : atD xs (i : Nat) = xs[i]? := by
  unfold atD
  rw [if_pos (by omega)]
  by_cases h : i < xs.length
  · rw [if_pos (by omega)]; rfl
  · rw [if_neg (by omega), List.getElem?_eq_none (by omega)]
@[simp] theorem at_p (h : 0 ≤ n) : atD xs n = xs[n.toNat]? := by
  obtain ⟨k, rfl⟩ := Int.eq_ofNat_of_zero_le h
  exact at_n
@[simp] theorem at_l : atD xs (-1) = xs.getLast? := by
  unfold atD
  rw [if_neg (by omega), List.getLast?_eq_getElem?]
  cases xs with
  | nil => rfl
  | cons x l =>
    rw [if_pos (by simp only [List.length_cons]; omega)]
    congr 1
    simp only [List.length_cons]; omega
@[simp] theorem bd_s {α β : Type} {a : α} {f : α → Option β} : (some a).bind f = f a := id rfl
@[simp] theorem mp_s {α β : Type} {a : α} {f : α → β} : (some a).map f = some (f a) := id rfl
@[simp] theorem bd_n {α β : Type} {f : α → Option β} : (none : Option α).bind f = none := id rfl
@[simp] theorem mp_n {α β : Type} {f : α → β} : (none : Option α).map f = none := id rfl
@[simp] theorem no_n : noOwn e [] = true := id rfl
@[simp] theorem no_c : noOwn e (i :: vs) = ((ownD (slot e i)).isNone && noOwn e vs) := id rfl
@[simp] theorem wi_n : wipeE e [] = e := id rfl
@[simp] theorem wi_c : wipeE e (i :: vs) = (wipeE e vs).set i .no := id rfl
@[simp] theorem ba_c {e0 : Env} : backE e0 e (i :: vs) = (backE e0 e vs).set i (slot e0 i) := id rfl
@[simp] theorem ba_n {e0 : Env} : backE e0 e [] = e := id rfl
@[simp] theorem envOf_d {f : Fn} {ds : List D} : envOf f ds d = (if f.inout then [Slot.inp d] else []) ++ ds.map Slot.val ++ List.replicate (f.n - ds.length - (if f.inout then 1 else 0)) Slot.no := id rfl
@[simp] theorem bt_v : bindT (.v i) d e = some (e.set i (.val d)) := id rfl
@[simp] theorem bt_2 : bindT (.p2 t1 t2) (.tuple [d, d2]) e = (bindT t1 d e).bind fun e1 => bindT t2 d2 e1 := id rfl
@[simp] theorem bt_3 : bindT (.p3 t1 t2 t3) (.tuple [d, d2, d3]) e = (bindT t1 d e).bind fun e1 => (bindT t2 d2 e1).bind fun e2 => bindT t3 d3 e2 := id rfl
@[simp] theorem au_Add : augI .Add n (.int m) = some (.int (n + m)) := id rfl
@[simp] theorem au_Sub : augI .Sub n (.int m) = some (.int (n - m)) := id rfl
@[simp] theorem au_Mult : augI .Mult n (.int m) = if mulOk n m then some (.int (n * m)) else none := id rfl
section
variable {C : Calls} {a : IE} {QE : D → Env → Prop} {K : Env → Prop}
theorem v_val (h : slot e i = .val d) : wpE C (.v i) e QE ↔ QE d e := by rw [w_v, h]

end
theorem wpE_cg {C : Calls} {a : IE} {e : Env} {Q Q' : D → Env → Prop} (h : ∀ x e1, Q x e1 = Q' x e1) : wpE C a e Q = wpE C a e Q' := by
  obtain rfl : Q = Q' := funext fun x => funext fun e1 => h x e1
  rfl
theorem wO_cg {α : Type} {o : Option α} {Q Q' : α → Prop} (h : ∀ x, Q x = Q' x) : wO o Q = wO o Q' := by
  obtain rfl : Q = Q' := funext fun x => h x
  rfl
/-- what a place's value does -/
def vQ (sl : Slot) (e : Env) (i : Nat) (QE : D → Env → Prop) (_ : Bx QE := ⟨⟩) : Prop := match sl with
  | .val d => QE d e
  | .own d => QE d (e.set i (.val d))
  | _ => False
@[simp] theorem w_v' {C : Calls} {QE : D → Env → Prop} : wpE C (.v i) e QE ↔ vQ (slot e i) e i QE := w_v
@[simp] theorem vQ_v {QE : D → Env → Prop} : vQ (.val d) e i QE = QE d e := id rfl
@[simp] theorem vQ_o {QE : D → Env → Prop} : vQ (.own d) e i QE = QE d (e.set i (.val d)) := id rfl
def ifQ (q : Bool) (A B : Prop) (_ : Bx A := ⟨⟩) (_ : Bx B := ⟨⟩) : Prop := match q with
  | true => A
  | false => B
@[simp] theorem ifQ_t {A B : Prop} : ifQ true A B = A := id rfl
@[simp] theorem ifQ_f {A B : Prop} : ifQ false A B = B := id rfl
section
variable {C : Calls} {Q : D → Env → Prop} {R : Fl → Env → Prop} {ss x' y' : ISs}
@[simp] theorem w_and' : wpE C (.and a b) e Q ↔ wpE C a e fun x e1 => wO (bool? x) fun i => ifQ i (wpE C b e1 Q) (Q (.bool false) e1) := by
  rw [w_and]
  refine iff_of_eq (wpE_cg fun x e1 => wO_cg fun i => ?_)
  cases i <;> rfl
@[simp] theorem w_or' : wpE C (.or a b) e Q ↔ wpE C a e fun x e1 => wO (bool? x) fun i => ifQ i (Q (.bool true) e1) (wpE C b e1 Q) := by
  rw [w_or]
  refine iff_of_eq (wpE_cg fun x e1 => wO_cg fun i => ?_)
  cases i <;> rfl
@[simp] theorem w_ite' : wpE C (.ite c a b) e Q ↔ wpE C c e fun x e1 => wO (bool? x) fun i => ifQ i (wpE C a e1 Q) (wpE C b e1 Q) := by
  rw [w_ite]
  refine iff_of_eq (wpE_cg fun x e1 => wO_cg fun i => ?_)
  cases i <;> rfl
@[simp] theorem w_if' : wpS C (.cons (.if_ c x' y') ss) e R ↔ wpE C c e fun x e1 => wO (bool? x) fun i => ifQ i (wpS C x' e1 (thenS C ss R)) (wpS C y' e1 (thenS C ss R)) := by
  rw [w_if]
  refine iff_of_eq (wpE_cg fun x e1 => wO_cg fun i => ?_)
  cases i <;> rfl
@[simp] theorem w_cmp2' : wpE C (.cmp2 co co2 a b c) e Q ↔ wpE C a e fun x e1 => wpE C b e1 fun y e2 => wO (dcmp co x y) fun i => ifQ i (wpE C c e2 fun z e3 => wO (dcmp co2 y z) fun d => Q (.bool d) e3) (Q (.bool false) e2) := by
  rw [w_cmp2]
  refine iff_of_eq (wpE_cg fun x e1 => wpE_cg fun y e2 => wO_cg fun i => ?_)
  cases i <;> rfl
def setS (sl : Option D) (i : Nat) (sl0 : Slot) (d y : D) (e2 : Env) (K : Env → Prop) (_ : Bx K := ⟨⟩) : Prop := match sl, y with
  | some (.list xs), .int j => (atD xs j).isSome = true ∧ K (e2.set i (reOwn sl0 (.list (xs.set (if 0 ≤ j then j.toNat else (j + xs.length).toNat) d))))
  | some (.dict kvs), k => (kOk kvs k = true ∧ kvs.length < big) ∧ K (e2.set i (reOwn sl0 (.dict (dstore kvs k d))))
  | _, _ => False
@[simp] theorem setS_l {sl0 : Slot} {e2 : Env} {K : Env → Prop} : setS (some (.list xs)) i sl0 d (.int n) e2 K = ((atD xs n).isSome = true ∧ K (e2.set i (reOwn sl0 (.list (xs.set (if 0 ≤ n then n.toNat else (n + xs.length).toNat) d))))) := id rfl
@[simp] theorem setS_d {sl0 : Slot} {e2 : Env} {K : Env → Prop} : setS (some (.dict kvs)) i sl0 d d2 e2 K = ((kOk kvs d2 = true ∧ kvs.length < big) ∧ K (e2.set i (reOwn sl0 (.dict (dstore kvs d2 d))))) := id rfl
@[simp] theorem w_setI' : wpS C (.cons (.setI i b a) ss) e R ↔ wpE C a e fun d e1 => (ownD (slot e1 i)).isSome = true ∧ wpE C b e1 fun y e2 => setS (ownD (slot e2 i)) i (slot e2 i) d y e2 fun e3 => wpS C ss e3 R := by
  rw [w_setI]; rfl
def augS (sl : Slot) (i : Nat) (op : Operator) (a : IE) (C : Calls) (e : Env) (K : Env → Prop) (_ : Bx K := ⟨⟩) : Prop := match sl with
  | .val (.int x) => wpE C a e fun y e1 => wO (augI op x y) fun z => K (e1.set i (.val z))
  | .own (.list _) => wpE C a e fun y e1 => match op, ownD (slot e1 i), items? y with
    | .Add, some (.list xs), some ys => isLong (xs ++ ys) = true ∧ K (e1.set i (reOwn (slot e1 i) (.list (xs ++ ys))))
    | _, _, _ => False
  | _ => False
def augC (sl : Slot) (o : Option (List D)) (i : Nat) (e1 : Env) (K : Env → Prop) (_ : Bx K := ⟨⟩) : Prop := match ownD sl, o with
  | some (.list xs), some ys => isLong (xs ++ ys) = true ∧ K (e1.set i (reOwn sl (.list (xs ++ ys))))
  | _, _ => False
@[simp] theorem augC_l {K : Env → Prop} : augC (.own (.list xs)) (some ys) i e K = (isLong (xs ++ ys) = true ∧ K (e.set i (.own (.list (xs ++ ys))))) := id rfl
@[simp] theorem augS_i {K : Env → Prop} : augS (.val (.int n)) i op a C e K = wpE C a e fun y e1 => wO (augI op n y) fun z => K (e1.set i (.val z)) := id rfl
@[simp] theorem augS_l {K : Env → Prop} : augS (.own (.list xs)) i .Add a C e K = wpE C a e fun y e1 => augC (slot e1 i) (items? y) i e1 K := by
  unfold augS
  refine wpE_cg fun y e1 => ?_
  unfold augC
  cases ownD (slot e1 i) with
  | none => rfl
  | some l => cases l <;> cases items? y <;> rfl
@[simp] theorem w_aug' : wpS C (.cons (.aug i op a) ss) e R ↔ augS (slot e i) i op a C e fun e3 => wpS C ss e3 R := by
  rw [w_aug]; rfl
def appS (sl : Slot) (i : Nat) (y : D) (e1 : Env) (K : Env → Prop) (_ : Bx K := ⟨⟩) : Prop := match ownD sl with
  | some (.list xs) => xs.length < big ∧ K (e1.set i (reOwn sl (.list (xs ++ [y]))))
  | _ => False
@[simp] theorem appS_o {K : Env → Prop} : appS (.own (.list xs)) i d e K = (xs.length < big ∧ K (e.set i (.own (.list (xs ++ [d]))))) := id rfl
@[simp] theorem appS_i {K : Env → Prop} : appS (.inp (.list xs)) i d e K = (xs.length < big ∧ K (e.set i (.inp (.list (xs ++ [d]))))) := id rfl
@[simp] theorem w_app' : wpS C (.cons (.app i a) ss) e R ↔ ownL (slot e i) = true ∧ wpE C a e fun y e1 => appS (slot e1 i) i y e1 fun e2 => wpS C ss e2 R := by
  rw [w_app]; rfl
def retOS (sl : Slot) (i : Nat) (e : Env) (R : Fl → Env → Prop) (_ : Bx R := ⟨⟩) : Prop := match sl with
  | .own d => R (.ret true d) (e.set i .no)
  | _ => False
@[simp] theorem retOS_o : retOS (.own d) i e R = R (.ret true d) (e.set i .no) := id rfl
@[simp] theorem w_retO' : wpS C (.cons (.retO i) ss) e R ↔ retOS (slot e i) i e R := by rw [w_retO]; rfl
def popS (sl : Slot) (i : Nat) (e : Env) (Q : D → Env → Prop) (_ : Bx Q := ⟨⟩) : Prop := match ownD sl with
  | some (.list xs) => wO xs.getLast? fun y => Q y (e.set i (reOwn sl (.list xs.dropLast)))
  | _ => False
@[simp] theorem popS_o : popS (.own (.list xs)) i e Q = wO xs.getLast? fun y => Q y (e.set i (.own (.list xs.dropLast))) := id rfl
@[simp] theorem w_pop' : wpE C (.pop i) e Q ↔ popS (slot e i) i e Q := by rw [w_pop]; rfl
def popIS (sl : Slot) (i : Nat) (x : D) (e1 : Env) (Q : D → Env → Prop) (_ : Bx Q := ⟨⟩) : Prop := match ownD sl, x with
  | some (.list xs), .int j => wO (atD xs j) fun y => 0 ≤ j ∧ Q y (e1.set i (reOwn sl (.list (xs.eraseIdx j.toNat))))
  | _, _ => False
@[simp] theorem popIS_o : popIS (.own (.list xs)) i (.int n) e Q = wO (atD xs n) fun y => 0 ≤ n ∧ Q y (e.set i (.own (.list (xs.eraseIdx n.toNat)))) := id rfl
@[simp] theorem w_popI' : wpE C (.popI i a) e Q ↔ ownL (slot e i) = true ∧ wpE C a e fun x e1 => popIS (slot e1 i) i x e1 Q := by rw [w_popI]; rfl
@[simp] theorem w_callS' : wpE C (.callS f i as) e Q ↔ (ownD (slot e i)).isSome = true ∧ wpEs C as e fun ds e1 => wO (ownD (slot e1 i)) fun s => wpC C f ds s fun d s' => Q d (e1.set i (reOwn (slot e1 i) s')) := w_callS
/-- a call to which a place is lent -/
def lentS (sl : Slot) (C : Calls) (f : String) (i : Nat) (as : IEs) (e : Env) (Q : D → Env → Prop) (_ : Bx Q := ⟨⟩) : Prop := match sl with
  | .val d0 => wpEs C as e fun ds e1 => wpC C f (d0 :: ds) .none fun d _ => Q d e1
  | .own _ => wpEs C as e fun ds e1 => match slot e1 i with
    | .own d1 => wpC C f (d1 :: ds) .none fun d _ => isFlat d = true ∧ Q d e1
    | _ => False
  | _ => False
def lentO (sl : Slot) (C : Calls) (f : String) (ds : List D) (e1 : Env) (Q : D → Env → Prop) (_ : Bx Q := ⟨⟩) : Prop := match sl with
  | .own d1 => wpC C f (d1 :: ds) .none fun d _ => isFlat d = true ∧ Q d e1
  | _ => False
@[simp] theorem lentS_v {as : IEs} : lentS (.val d) C f i as e Q = wpEs C as e fun ds e1 => wpC C f (d :: ds) .none fun d _ => Q d e1 := id rfl
@[simp] theorem lentS_o {as : IEs} : lentS (.own d) C f i as e Q = wpEs C as e fun ds e1 => lentO (slot e1 i) C f ds e1 Q := id rfl
@[simp] theorem lentO_o {ds : List D} : lentO (.own d) C f ds e Q = wpC C f (d :: ds) .none fun d _ => isFlat d = true ∧ Q d e := id rfl
@[simp] theorem flat_n : isFlat .none = true := id rfl
@[simp] theorem flat_b {b : Bool} : isFlat (.bool b) = true := id rfl
@[simp] theorem flat_i {b : Int} : isFlat (.int b) = true := id rfl
@[simp] theorem flat_s {b : Str} : isFlat (.str b) = true := id rfl
@[simp] theorem w_callB {as : IEs} : wpE C (.callB f i as) e Q ↔ lentS (slot e i) C f i as e Q := by
  unfold wpE lentS
  simp only [ev]
  cases slot e i with
  | val d0 =>
    simp only [wpEs, wpC, wCR]
    cases evs C as e with
    | ok ds e1 => cases h : C f (d0 :: ds) .none <;> simp [wR, h]
    | exc c e1 => simp [wR]
    | stuck => simp [wR]
  | own d0 =>
    simp only [wpEs]
    cases evs C as e with
    | ok ds e1 =>
      simp only [wR]
      cases h0 : slot e1 i with
      | own d1 =>
        simp only [wpC, wCR]
        cases h : C f (d1 :: ds) .none with
        | ok d s => cases h2 : isFlat d <;> simp [h2]
        | exc c s => simp
        | stuck => simp
      | _ => simp
    | exc c e1 => simp [wR]
    | stuck => simp [wR]
  | _ => simp [wR]
@[simp] theorem retQ_r {fn : Fn} {QC : D → D → Prop} {o : Bool} : retQ fn QC (.ret o d) e = wO (selfOf fn e) fun s' => o = fn.fresh ∧ QC d s' := id rfl
@[simp] theorem retQ_n {fn : Fn} {QC : D → D → Prop} : retQ fn QC .next e = wO (selfOf fn e) fun s' => fn.fresh = false ∧ QC .none s' := id rfl
def selfS : Slot → Option D
  | .inp s => some s
  | _ => none
@[simp] theorem self_t {fn : Fn} (h : fn.inout = true) : selfOf fn e = selfS (slot e 0) := by
  unfold selfOf; rw [if_pos h]; cases slot e 0 <;> rfl
@[simp] theorem self_f {fn : Fn} (h : fn.inout = false) : selfOf fn e = some .none := by
  unfold selfOf; rw [if_neg (by rw [h]; exact Bool.false_ne_true)]
@[simp] theorem selfS_i : selfS (.inp d) = some d := id rfl
end
end
end BT
namespace BT
open PySem
/-! ## the defs that have one form in all laws, in small form (printed by gen2.py) -/
def b_law_after_L1 : ISs := (.cons (.asg 0 (.call "_law_moved" (.cons (.v 0) (.cons (.v 2) .nil)))) .nil)
def b_law_after : ISs := (.cons (.for_ (.v 2) (.e (.v 1)) b_law_after_L1) (.cons (.ret (.v 0)) .nil))
def f_law_after : Fn := ⟨2, 3, false, false, b_law_after⟩
def b_law_all_moves_L1 : ISs := (.cons (.asg 2 (.bin .Add (.b 2) (.lc [4] (.bin .Add (.b 4) (.tup (.cons (.v 3) .nil))) (.v 4) (.e (.v 2))))) .nil)
def b_law_all_moves_L2 : ISs := (.cons (.asg 7 (.bin .Add (.b 7) (.lc [9] (.bin .Add (.b 8) (.tup (.cons (.v 9) .nil))) (.v 9) (.e (.v 2))))) .nil)
def b_law_all_moves_L3 : ISs := (.cons (.asg 7 (.lst .nil)) (.cons (.for_ (.v 8) (.e (.v 5)) b_law_all_moves_L2) (.cons (.asg 5 (.v 7)) .nil)))
def b_law_all_moves : ISs := (.cons (.asg 2 (.lst (.cons (.tup .nil) .nil))) (.cons (.for_ (.v 3) (.e (.pr .sorted (.b 0))) b_law_all_moves_L1) (.cons (.asg 5 (.lst (.cons (.tup .nil) .nil))) (.cons (.for_ (.v 6) (.r1 (.v 1)) b_law_all_moves_L3) (.cons (.ret (.v 5)) .nil)))))
def f_law_all_moves : Fn := ⟨2, 10, false, false, b_law_all_moves⟩
def b_law_all_raise : ISs := (.cons (.ret (.cmp .Eq (.lcf [2] (.v 2) (.v 2) (.e (.v 0)) (.cmp .NotEq (.call "_law_outcome" (.cons (.v 2) .nil)) (.b 1))) (.lst .nil))) .nil)
def f_law_all_raise : Fn := ⟨2, 3, false, false, b_law_all_raise⟩
def b_law_along_L1 : ISs := (.cons (.asg 4 (.lcf [5, 6] (.call "_law_two_to" (.cons (.v 5) .nil)) (.p2 (.v 5) (.v 6)) (.enum (.v 1)) (.cmp .NotIn (.b 3) (.b 6)))) (.cons (.app 2 (.pr .sum (.b 4))) .nil))
def b_law_along : ISs := (.cons (.asg 2 (.lst .nil)) (.cons (.for_ (.v 3) (.e (.v 0)) b_law_along_L1) (.cons (.ret (.pr .tuple (.b 2))) .nil)))
def f_law_along : Fn := ⟨2, 7, false, false, b_law_along⟩
def b_law_any_value : ISs := (.cons (.asg 1 (.lst (.cons (.k .none) (.cons (.k (.bool true)) (.cons (.k (.str (""))) (.cons (.k (.str ("x"))) (.cons (.tup .nil) (.cons (.lst .nil) (.cons (.tup (.cons (.tup .nil) .nil)) (.cons (.k (.int (7))) (.cons (.neg (.k (.int (1)))) (.cons (.bin .Pow (.k (.int (10))) (.k (.int (30)))) (.cons (.tup (.cons (.k (.int (1))) (.cons (.k (.int (2))) .nil))) (.cons (.tup (.cons (.tup (.cons (.k (.int (1))) .nil)) (.cons (.tup (.cons (.k (.int (2))) .nil)) .nil))) (.cons (.tup (.cons (.tup (.cons (.k (.int (0))) (.cons (.k (.int (1))) .nil))) .nil)) (.cons (.tup (.cons (.k (.int (0))) (.cons (.k (.int (0))) .nil))) .nil)))))))))))))))) (.cons (.ret (.callS "_law_choice" 0 (.cons (.v 1) .nil))) .nil))
def f_law_any_value : Fn := ⟨0, 2, true, false, b_law_any_value⟩
def b_law_both_L1 : ISs := (.cons (.asg 4 (.pr .tuple (.lcf [5] (.v 5) (.v 5) (.e (.v 0)) (.cmp .In (.b 5) (.b 3))))) (.cons (.asg 6 (.pr .tuple (.lcf [5] (.v 5) (.v 5) (.e (.v 0)) (.cmp .NotIn (.b 5) (.b 3))))) (.cons (.asg 0 (.ite (.cmp .Eq (.b 2) (.k (.str ("top")))) (.bin .Add (.b 4) (.b 6)) (.bin .Add (.b 6) (.b 4)))) .nil)))
def b_law_both : ISs := (.cons (.for_ (.p2 (.v 2) (.v 3)) (.e (.v 1)) b_law_both_L1) (.cons (.ret (.v 0)) .nil))
def f_law_both : Fn := ⟨2, 7, false, false, b_law_both⟩
def b_law_breaks : ISs := (.cons (.asg 2 (.lc [3] (.index (.v 0) (.v 3)) (.v 3) (.e (.v 1)))) (.cons (.ret (.lcf [4] (.v 4) (.v 4) (.r2 (.k (.int (1))) (.pr .len (.b 2))) (.cmp .Lt (.ix (.b 2) (.b 4)) (.ix (.b 2) (.bin .Sub (.b 4) (.k (.int (1)))))))) .nil))
def f_law_breaks : Fn := ⟨2, 5, false, false, b_law_breaks⟩
def b_law_call : ISs := (.cons (.asg 2 (.callS "_law_choice" 0 (.cons (.lst (.cons (.k (.str ("move"))) (.cons (.k (.str ("move"))) (.cons (.k (.str ("move"))) (.cons (.k (.str ("add"))) (.cons (.k (.str ("remove"))) (.cons (.k (.str ("undo"))) .nil))))))) .nil))) (.cons (.asg 3 (.callS "_law_choice" 0 (.cons (.lst (.cons (.k .none) (.cons (.k (.bool true)) (.cons (.neg (.k (.int (1)))) (.cons (.k (.int (100))) (.cons (.k (.str ("1"))) (.cons (.tup (.cons (.k (.int (1))) .nil)) .nil))))))) .nil))) (.cons (.if_ (.cmp .Eq (.b 2) (.k (.str ("move")))) (.cons (.asg 4 (.callS "_law_choice" 0 (.cons (.lst (.cons (.k .none) (.cons (.pr .list (.b 1)) (.cons (.bin .Add (.b 1) (.slu (.b 1) (.k (.int (1))))) (.cons (.tup (.cons (.k (.int (100))) .nil)) (.cons (.rev (.b 1)) (.cons (.k (.int (7))) .nil))))))) .nil))) (.cons (.ret (.tup (.cons (.v 2) (.cons (.ite (.cmp .Eq (.callS "_law_draw" 0 (.cons (.k (.int (6))) .nil)) (.k (.int (0)))) (.v 4) (.callS "_law_selection" 0 (.cons (.v 1) .nil))) .nil)))) .nil)) .nil) (.cons (.if_ (.cmp .Eq (.b 2) (.k (.str ("add")))) (.cons (.ret (.tup (.cons (.v 2) (.cons (.ite (.cmp .Eq (.callS "_law_draw" 0 (.cons (.k (.int (6))) .nil)) (.k (.int (0)))) (.v 3) (.callS "_law_draw" 0 (.cons (.callS "_law_choice" 0 (.cons (.lst (.cons (.k (.int (14))) (.cons (.k (.int (100))) .nil))) .nil)) .nil))) .nil)))) .nil) .nil) (.cons (.if_ (.cmp .Eq (.b 2) (.k (.str ("remove")))) (.cons (.ret (.tup (.cons (.v 2) (.cons (.ite (.cmp .Eq (.callS "_law_draw" 0 (.cons (.k (.int (6))) .nil)) (.k (.int (0)))) (.v 3) (.callS "_law_choice" 0 (.cons (.bin .Add (.pr .list (.b 1)) (.lst (.cons (.k (.int (55))) .nil))) .nil))) .nil)))) .nil) .nil) (.cons (.ret (.tup (.cons (.v 2) (.cons (.k .none) .nil)))) .nil))))))
def f_law_call : Fn := ⟨1, 5, true, false, b_law_call⟩
def b_law_called : ISs := (.cons (.ret (.pr .tuple (.lc [2] (.ix (.b 1) (.b 2)) (.v 2) (.e (.v 0))))) .nil)
def f_law_called : Fn := ⟨2, 3, false, false, b_law_called⟩
def b_law_choice : ISs := (.cons (.ret (.ix (.b 1) (.callS "_law_draw" 0 (.cons (.pr .len (.b 1)) .nil)))) .nil)
def f_law_choice : Fn := ⟨1, 2, true, false, b_law_choice⟩
def b_law_choices_L1 : ISs := (.cons (.asg 2 (.bin .Add (.b 2) (.b 3))) (.cons (.asg 3 (.bin .FloorDiv (.bin .Mult (.b 3) (.bin .Sub (.b 0) (.b 4))) (.bin .Add (.b 4) (.k (.int (1)))))) .nil))
def b_law_choices : ISs := (.cons (.asg2 2 3 (.k (.int (0))) (.k (.int (1)))) (.cons (.for_ (.v 4) (.r1 (.bin .Add (.min2 (.v 0) (.v 1)) (.k (.int (1))))) b_law_choices_L1) (.cons (.ret (.v 2)) .nil)))
def f_law_choices : Fn := ⟨2, 5, false, false, b_law_choices⟩
def b_law_corrupt : ISs := (.cons (.if_ (.and (.isi (.b 1) [.tuple, .list]) (.and (.cmp .Gt (.pr .len (.b 1)) (.k (.int (0)))) (.cmp .Gt (.callS "_law_draw" 0 (.cons (.k (.int (5))) .nil)) (.k (.int (0)))))) (.cons (.asg 2 (.pr .list (.b 1))) (.cons (.asg 3 (.callS "_law_draw" 0 (.cons (.pr .len (.b 2)) .nil))) (.cons (.setI 2 (.v 3) (.callS "_law_corrupt" 0 (.cons (.ix (.b 2) (.b 3)) .nil))) (.cons (.ret (.ite (.isi (.b 1) [.tuple]) (.pr .tuple (.b 2)) (.v 2))) .nil)))) .nil) (.cons (.if_ (.isi (.b 1) [.tuple, .list]) (.cons (.asg 4 (.ite (.isi (.b 1) [.tuple]) (.pr .list (.b 1)) (.pr .tuple (.b 1)))) (.cons (.ret (.ix (.lst (.cons (.v 4) (.cons (.bin .Add (.b 1) (.slu (.b 1) (.k (.int (1))))) (.cons (.sll (.b 1) (.k (.int (1)))) (.cons (.rev (.b 1)) (.cons (.k .none) .nil)))))) (.callS "_law_draw" 0 (.cons (.k (.int (5))) .nil)))) .nil)) .nil) (.cons (.if_ (.isi (.b 1) [.int]) (.cons (.ret (.ix (.lst (.cons (.bin .Add (.b 1) (.k (.int (1)))) (.cons (.bin .Sub (.b 1) (.k (.int (1)))) (.cons (.k (.bool true)) (.cons (.k .none) (.cons (.k (.int (0))) (.cons (.k (.int (100))) (.cons (.pr .strI (.b 1)) .nil)))))))) (.callS "_law_draw" 0 (.cons (.k (.int (7))) .nil)))) .nil) .nil) (.cons (.ret (.ix (.lst (.cons (.k .none) (.cons (.k (.int (7))) (.cons (.k (.str ("a"))) (.cons (.k (.str ("b"))) (.cons (.k (.str ("x"))) (.cons (.k (.str ("y"))) (.cons (.k (.str ("z"))) (.cons (.k (.str (""))) .nil))))))))) (.callS "_law_draw" 0 (.cons (.k (.int (8))) .nil)))) .nil))))
def f_law_corrupt : Fn := ⟨1, 5, true, false, b_law_corrupt⟩
def b_law_cost_L1 : ISs := (.cons (.asg 4 (.bin .Add (.b 4) (.pr .sum (.lc [6] (.ix (.b 3) (.b 6)) (.v 6) (.e (.v 5)))))) .nil)
def b_law_cost : ISs := (.cons (.asg2 3 4 (.dzip (.v 0) (.v 1)) (.k (.int (0)))) (.cons (.for_ (.v 5) (.e (.v 2)) b_law_cost_L1) (.cons (.ret (.v 4)) .nil)))
def f_law_cost : Fn := ⟨3, 7, false, false, b_law_cost⟩
def b_law_costs_L1 : ISs := (.cons (.app 6 (.bin .Add (.ix (.b 6) (.neg (.k (.int (1))))) (.ix (.b 4) (.b 7)))) .nil)
def b_law_costs_L2 : ISs := (.cons (.app 18 (.bin .Add (.bin .Add (.bin .Sub (.ix (.b 6) (.b 19)) (.ix (.b 6) (.b 14))) (.ix (.b 10) (.tup (.cons (.v 14) (.cons (.v 19) .nil))))) (.ix (.b 10) (.tup (.cons (.v 19) (.cons (.v 15) .nil)))))) .nil)
def b_law_costs_L3 : ISs := (.cons (.asg 16 (.lcf [17] (.v 17) (.v 17) (.e (.v 5)) (.cmp2 .Lt .Lt (.v 14) (.v 17) (.v 15)))) (.cons (.asg 18 (.lst (.cons (.ite (.cmp .Eq (.b 16) (.lst .nil)) (.k (.int (0))) (.v 9)) .nil))) (.cons (.if_ (.cmp .Gt (.b 12) (.k (.int (0)))) (.cons (.for_ (.v 19) (.r2 (.v 14) (.bin .Add (.b 15) (.k (.int (1))))) b_law_costs_L2) .nil) .nil) (.cons (.setI 13 (.tup (.cons (.v 14) (.cons (.v 15) .nil))) (.pr .min (.b 18))) .nil))))
def b_law_costs_L4 : ISs := (.cons (.for_ (.v 15) (.r2 (.v 14) (.bin .Add (.b 8) (.k (.int (1))))) b_law_costs_L3) .nil)
def b_law_costs_L5 : ISs := (.cons (.asg 13 .dnew) (.cons (.for_ (.v 14) (.r1 (.bin .Add (.b 8) (.k (.int (1))))) b_law_costs_L4) (.cons (.asg 10 (.v 13)) (.cons (.app 11 (.ix (.b 10) (.tup (.cons (.k (.int (0))) (.cons (.v 8) .nil))))) .nil))))
def b_law_costs : ISs := (.cons (.asg3 4 5 6 (.dzip (.v 0) (.v 2)) (.call "_law_breaks" (.cons (.v 0) (.cons (.v 1) .nil))) (.lst (.cons (.k (.int (0))) .nil))) (.cons (.for_ (.v 7) (.e (.v 1)) b_law_costs_L1) (.cons (.asg2 8 9 (.pr .len (.b 1)) (.bin .Pow (.k (.int (10))) (.k (.int (9))))) (.cons (.asg2 10 11 .dnew (.lst .nil)) (.cons (.for_ (.v 12) (.r1 (.bin .Add (.b 3) (.k (.int (1))))) b_law_costs_L5) (.cons (.ret (.v 11)) .nil))))))
def f_law_costs : Fn := ⟨4, 20, false, false, b_law_costs⟩
def b_law_costs_agree_L1 : ISs := (.cons (.if_ (.cmp .NotEq (.call "least_cost" (.cons (.v 1) (.cons (.v 2) (.cons (.v 3) (.cons (.bin .Add (.b 4) (.b 6)) .nil))))) (.b 7)) (.cons (.ret (.k (.bool false))) .nil) .nil) (.cons (.if_ (.cmp .NotEq (.call "cheapest_within" (.cons (.v 1) (.cons (.v 2) (.cons (.v 3) (.cons (.v 7) .nil))))) (.bin .Add (.b 4) (.b 6))) (.cons (.ret (.k (.bool false))) .nil) .nil) .nil))
def b_law_costs_agree : ISs := (.cons (.asg 4 (.call "fewest_moves" (.cons (.v 1) (.cons (.v 2) .nil)))) (.cons (.asg 5 (.callF "trade_off" (.cons (.v 1) (.cons (.v 2) (.cons (.v 3) .nil))))) (.cons (.for_ (.p2 (.v 6) (.v 7)) (.enum (.v 5)) b_law_costs_agree_L1) (.cons (.if_ (.and (.cmp .Gt (.ix (.b 5) (.neg (.k (.int (1))))) (.k (.int (0)))) (.notN (.call "cheapest_within" (.cons (.v 1) (.cons (.v 2) (.cons (.v 3) (.cons (.bin .Sub (.ix (.b 5) (.neg (.k (.int (1))))) (.k (.int (1)))) .nil))))))) (.cons (.ret (.k (.bool false))) .nil) .nil) (.cons (.asg 8 (.callS "_law_draw" 0 (.cons (.k (.int (7))) .nil))) (.cons (.if_ (.cmp .NotEq (.call "least_cost_for_top" (.cons (.v 1) (.cons (.v 2) (.cons (.v 3) (.cons (.v 8) .nil))))) (.call "least_cost" (.cons (.v 1) (.cons (.v 2) (.cons (.v 3) (.cons (.v 8) .nil)))))) (.cons (.ret (.k (.bool false))) .nil) .nil) (.cons (.if_ (.or (.cmp .NotEq (.call "fewest_for_top" (.cons (.v 1) (.cons (.v 2) .nil))) (.b 4)) (.cmp .NotEq (.call "with_top" (.cons (.v 1) (.cons (.v 2) .nil))) (.b 2))) (.cons (.ret (.k (.bool false))) .nil) .nil) (.cons (.if_ (.cmp .NotEq (.call "fewest_touching" (.cons (.v 1) (.cons (.v 2) (.cons (.k (.int (30))) .nil)))) (.b 4)) (.cons (.ret (.k (.bool false))) .nil) .nil) (.cons (.asg2 9 10 (.call "least_both" (.cons (.v 1) (.cons (.v 2) (.cons (.v 3) (.cons (.bin .Mod (.b 8) (.k (.int (4)))) .nil))))) (.call "least_cost" (.cons (.v 1) (.cons (.v 2) (.cons (.v 3) (.cons (.bin .Mod (.b 8) (.k (.int (4)))) .nil)))))) (.cons (.ret (.or (.isN (.b 10)) (.and (.notN (.b 9)) (.cmp .LtE (.b 9) (.b 10))))) .nil))))))))))
def f_law_costs_agree : Fn := ⟨3, 11, true, false, b_law_costs_agree⟩
def b_law_counted_L1 : ISs := (.cons (.app 7 (.bin .Add (.ix (.b 7) (.neg (.k (.int (1))))) (.b 8))) .nil)
def b_law_counted_L2 : ISs := (.cons (.asg 7 (.lst (.cons (.k (.int (0))) .nil))) (.cons (.for_ (.v 8) (.e (.v 5)) b_law_counted_L1) (.cons (.asg 5 (.lc [9] (.ix (.b 7) (.ite (.cmp .In (.b 6) (.b 3)) (.v 9) (.bin .Add (.b 9) (.k (.int (1)))))) (.v 9) (.r1 (.v 4)))) .nil)))
def b_law_counted : ISs := (.cons (.asg2 3 4 (.call "_law_breaks" (.cons (.v 0) (.cons (.v 1) .nil))) (.call "_law_two_to" (.cons (.v 2) .nil))) (.cons (.asg 5 (.bin .Mult (.lst (.cons (.k (.int (1))) .nil)) (.b 4))) (.cons (.for_ (.v 6) (.r2 (.k (.int (1))) (.pr .len (.b 1))) b_law_counted_L2) (.cons (.ret (.pr .sum (.b 5))) .nil))))
def f_law_counted : Fn := ⟨3, 10, false, false, b_law_counted⟩
def b_law_counts_agree_L1 : ISs := (.cons (.asg 10 (.bin .Add (.b 10) (.bin .Mult (.call "plan_count" (.cons (.v 1) (.cons (.v 11) (.cons (.k (.int (1))) .nil)))) (.call "plan_count" (.cons (.v 11) (.cons (.v 2) (.cons (.k (.int (1))) .nil))))))) .nil)
def b_law_counts_agree : ISs := (.cons (.asg 3 (.callS "_law_draw" 0 (.cons (.k (.int (6))) .nil))) (.cons (.asg 4 (.call "plan_count" (.cons (.v 1) (.cons (.v 2) (.cons (.v 3) .nil))))) (.cons (.asgT (.p2 (.v 5) (.v 6)) (.call "chance" (.cons (.v 1) (.cons (.v 2) (.cons (.v 3) .nil))))) (.cons (.if_ (.cmp .NotEq (.bin .Mult (.b 5) (.call "_law_two_to" (.cons (.bin .Mult (.b 3) (.pr .len (.b 1))) .nil))) (.bin .Mult (.b 4) (.b 6))) (.cons (.ret (.k (.bool false))) .nil) .nil) (.cons (.if_ (.or (.cmp .NotEq (.call "total_count" (.cons (.tup (.cons (.v 1) (.cons (.v 2) .nil))) (.cons (.v 3) .nil))) (.b 4)) (.cmp .NotEq (.call "fewest_total" (.cons (.tup (.cons (.v 1) (.cons (.v 2) .nil))) .nil)) (.call "fewest_moves" (.cons (.v 1) (.cons (.v 2) .nil))))) (.cons (.ret (.k (.bool false))) .nil) .nil) (.cons (.if_ (.cmp .NotEq (.cmp .Gt (.b 4) (.k (.int (0)))) (.cmp .GtE (.b 3) (.call "fewest_moves" (.cons (.v 1) (.cons (.v 2) .nil))))) (.cons (.ret (.k (.bool false))) .nil) .nil) (.cons (.asg 7 (.pr .len (.b 1))) (.cons (.asg 8 (.lc [9] (.call "count_breaks" (.cons (.v 7) (.cons (.v 9) .nil))) (.v 9) (.r1 (.min2 (.v 7) (.call "_law_two_to" (.cons (.v 3) .nil)))))) (.cons (.if_ (.cmp .NotEq (.call "count_lists" (.cons (.v 7) (.cons (.v 3) .nil))) (.pr .sum (.b 8))) (.cons (.ret (.k (.bool false))) .nil) .nil) (.cons (.asg 10 (.k (.int (0)))) (.cons (.for_ (.v 11) (.e (.lst (.cons (.v 1) (.cons (.v 2) (.cons (.rev (.b 1)) .nil))))) b_law_counts_agree_L1) (.cons (.ret (.cmp .LtE (.b 10) (.bin .Mult (.call "plan_count" (.cons (.v 1) (.cons (.v 2) (.cons (.k (.int (2))) .nil)))) (.k (.int (3)))))) .nil))))))))))))
def f_law_counts_agree : Fn := ⟨2, 12, true, false, b_law_counts_agree⟩
def b_law_divided_L1 : ISs := (.cons (.asg 2 (.bin .Add (.b 2) (.lc [4] (.bin .Add (.b 4) (.tup (.cons (.v 3) .nil))) (.v 4) (.e (.v 2))))) .nil)
def b_law_divided_L2 : ISs := (.cons (.asg 12 (.tup (.cons (.v 8) (.cons (.call "_law_moved" (.cons (.v 9) (.cons (.v 11) .nil))) .nil)))) (.cons (.setI 7 (.v 12) (.bin .Add (.get2 (.b 7) (.v 12) (.k (.int (0)))) (.b 10))) .nil))
def b_law_divided_L3 : ISs := (.cons (.for_ (.v 11) (.e (.v 2)) b_law_divided_L2) .nil)
def b_law_divided_L4 : ISs := (.cons (.asg 7 .dnew) (.cons (.for_ (.p2 (.p2 (.v 8) (.v 9)) (.v 10)) (.items (.v 5)) b_law_divided_L3) (.cons (.asg 5 (.call "_law_closed" (.cons (.v 0) (.cons (.v 7) .nil)))) .nil)))
def b_law_divided : ISs := (.cons (.asg 2 (.lst (.cons (.tup .nil) .nil))) (.cons (.for_ (.v 3) (.e (.pr .sorted (.ix (.b 0) (.k (.int (0)))))) b_law_divided_L1) (.cons (.asg 5 (.call "_law_closed" (.cons (.v 0) (.cons (.dsp (.tup (.cons (.k (.int (0))) (.cons (.ix (.b 0) (.k (.int (0)))) .nil))) (.k (.int (1)))) .nil)))) (.cons (.for_ (.v 6) (.r1 (.v 1)) b_law_divided_L4) (.cons (.ret (.get2 (.b 5) (.tup (.cons (.bin .Sub (.pr .len (.b 0)) (.k (.int (2)))) (.cons (.ix (.b 0) (.neg (.k (.int (1))))) .nil))) (.k (.int (0))))) .nil)))))
def f_law_divided : Fn := ⟨2, 13, false, false, b_law_divided⟩
def b_law_drawn_L1 : ISs := (.cons (.asg 6 (.callS "_law_choice" 0 (.cons (.lcf [7] (.v 7) (.v 7) (.e (.v 3)) (.cmp .Eq (.ix (.b 1) (.b 7)) (.b 5))) .nil))) (.cons (.asg 3 (.lcf [7] (.v 7) (.v 7) (.e (.v 3)) (.cmp .NotEq (.b 7) (.b 6)))) (.cons (.asg 4 (.bin .Add (.b 4) (.tup (.cons (.v 6) .nil)))) .nil)))
def b_law_drawn : ISs := (.cons (.asg2 3 4 (.lrg (.pr .len (.b 1))) (.tup .nil)) (.cons (.for_ (.v 5) (.e (.v 2)) b_law_drawn_L1) (.cons (.ret (.v 4)) .nil)))
def f_law_drawn : Fn := ⟨2, 8, true, false, b_law_drawn⟩
def b_law_equal : ISs := (.cons (.if_ (.cmp .NotEq (.call "_law_kind" (.cons (.v 0) .nil)) (.call "_law_kind" (.cons (.v 1) .nil))) (.cons (.ret (.k (.bool false))) .nil) .nil) (.cons (.if_ (.and (.cmp .Gt (.call "_law_kind" (.cons (.v 0) .nil)) (.k (.int (3)))) (.cmp .Lt (.call "_law_kind" (.cons (.v 0) .nil)) (.k (.int (6))))) (.cons (.if_ (.cmp .NotEq (.pr .len (.b 0)) (.pr .len (.b 1))) (.cons (.ret (.k (.bool false))) .nil) .nil) (.cons (.ret (.cmp .Eq (.lcf [2, 3] (.v 2) (.p2 (.v 2) (.v 3)) (.enum (.v 0)) (.not (.callB "_law_equal" 3 (.cons (.ix (.b 1) (.b 2)) .nil)))) (.lst .nil))) .nil)) .nil) (.cons (.ret (.cmp .Eq (.b 0) (.b 1))) .nil)))
def f_law_equal : Fn := ⟨2, 4, false, false, b_law_equal⟩
def b_law_every : ISs := (.cons (.ret (.cmp .Eq (.lcf [2] (.k (.int (1))) (.v 2) (.e (.v 0)) (.cmp .NotEq (.call "_law_told" (.cons (.v 2) .nil)) (.b 1))) (.lst .nil))) .nil)
def f_law_every : Fn := ⟨2, 3, false, false, b_law_every⟩
def b_law_fewest_L1 : ISs := (.cons (.asg 2 (.bin .Add (.b 2) (.k (.int (1))))) .nil)
def b_law_fewest : ISs := (.cons (.asg 2 (.k (.int (0)))) (.cons (.while_ (.cmp .LtE (.call "_law_two_to" (.cons (.v 2) .nil)) (.pr .len (.call "_law_breaks" (.cons (.v 0) (.cons (.v 1) .nil))))) b_law_fewest_L1) (.cons (.ret (.v 2)) .nil)))
def f_law_fewest : Fn := ⟨2, 3, false, false, b_law_fewest⟩
def b_law_gap : ISs := (.cons (.asg 2 (.bin .Sub (.bin .Mult (.ix (.b 0) (.k (.int (0)))) (.ix (.b 1) (.k (.int (1))))) (.bin .Mult (.ix (.b 1) (.k (.int (0)))) (.ix (.b 0) (.k (.int (1))))))) (.cons (.ret (.tup (.cons (.max2 (.v 2) (.neg (.v 2))) (.cons (.bin .Mult (.ix (.b 0) (.k (.int (1)))) (.ix (.b 1) (.k (.int (1))))) .nil)))) .nil))
def f_law_gap : Fn := ⟨2, 3, false, false, b_law_gap⟩
def b_law_gcd_L1 : ISs := (.cons (.asg2 2 3 (.v 3) (.bin .Mod (.pr .int (.b 2)) (.b 3))) .nil)
def b_law_gcd : ISs := (.cons (.asg2 2 3 (.v 0) (.v 1)) (.cons (.while_ (.cmp .Gt (.b 3) (.k (.int (0)))) b_law_gcd_L1) (.cons (.ret (.v 2)) .nil)))
def f_law_gcd : Fn := ⟨2, 4, false, false, b_law_gcd⟩
def b_law_is_double : ISs := (.cons (.if_ (.or (.not (.isi (.b 1) [.tuple])) (.or (.cmp .NotEq (.pr .len (.b 1)) (.k (.int (2)))) (.cmp .NotIn (.ix (.b 1) (.k (.int (0)))) (.lst (.cons (.k (.str ("top"))) (.cons (.k (.str ("bottom"))) .nil)))))) (.cons (.ret (.k (.bool false))) .nil) .nil) (.cons (.asg 2 (.ix (.b 1) (.k (.int (1))))) (.cons (.if_ (.or (.not (.isi (.b 2) [.tuple])) (.cmp .NotEq (.pr .list (.b 2)) (.pr .sortset (.b 2)))) (.cons (.ret (.k (.bool false))) .nil) .nil) (.cons (.ret (.cmp .Eq (.lcf [3] (.v 3) (.v 3) (.e (.v 2)) (.cmp .NotIn (.b 3) (.b 0))) (.lst .nil))) .nil))))
def f_law_is_double : Fn := ⟨2, 4, false, false, b_law_is_double⟩
def b_law_is_int : ISs := (.cons (.ret (.and (.isi (.b 0) [.int]) (.not (.isi (.b 0) [.bool])))) .nil)
def f_law_is_int : Fn := ⟨1, 1, false, false, b_law_is_int⟩
def b_law_is_list : ISs := (.cons (.if_ (.or (.not (.isi (.b 0) [.tuple])) (.not (.cmp2 .LtE .LtE (.k (.int (1))) (.pr .len (.b 0)) (.k (.int (12)))))) (.cons (.ret (.k (.bool false))) .nil) .nil) (.cons (.if_ (.cmp .NotEq (.lcf [1] (.v 1) (.v 1) (.e (.v 0)) (.or (.not (.call "_law_is_int" (.cons (.v 1) .nil))) (.not (.cmp2 .LtE .LtE (.k (.int (0))) (.v 1) (.k (.int (99))))))) (.lst .nil)) (.cons (.ret (.k (.bool false))) .nil) .nil) (.cons (.ret (.cmp .Eq (.pr .lenset (.b 0)) (.pr .len (.b 0)))) .nil)))
def f_law_is_list : Fn := ⟨1, 2, false, false, b_law_is_list⟩
def b_law_is_moves_L1 : ISs := (.cons (.if_ (.not (.isi (.b 2) [.tuple])) (.cons (.ret (.k (.bool false))) .nil) .nil) (.cons (.if_ (.cmp .NotEq (.lcf [3] (.v 3) (.v 3) (.e (.v 2)) (.or (.not (.call "_law_is_int" (.cons (.v 3) .nil))) (.cmp .NotIn (.b 3) (.b 0)))) (.lst .nil)) (.cons (.ret (.k (.bool false))) .nil) .nil) (.cons (.if_ (.cmp .NotEq (.pr .list (.b 2)) (.pr .sortset (.b 2))) (.cons (.ret (.k (.bool false))) .nil) .nil) .nil)))
def b_law_is_moves : ISs := (.cons (.if_ (.or (.not (.isi (.b 1) [.tuple])) (.cmp .Gt (.pr .len (.b 1)) (.k (.int (30))))) (.cons (.ret (.k (.bool false))) .nil) .nil) (.cons (.for_ (.v 2) (.e (.v 1)) b_law_is_moves_L1) (.cons (.ret (.k (.bool true))) .nil)))
def f_law_is_moves : Fn := ⟨2, 4, false, false, b_law_is_moves⟩
def b_law_kind : ISs := (.cons (.if_ (.isi (.b 0) [.bool]) (.cons (.ret (.k (.int (1)))) .nil) .nil) (.cons (.if_ (.isi (.b 0) [.int]) (.cons (.ret (.k (.int (2)))) .nil) .nil) (.cons (.if_ (.isi (.b 0) [.str]) (.cons (.ret (.k (.int (3)))) .nil) .nil) (.cons (.if_ (.isi (.b 0) [.list]) (.cons (.ret (.k (.int (4)))) .nil) .nil) (.cons (.ret (.ite (.isi (.b 0) [.tuple]) (.k (.int (5))) (.k (.int (6))))) .nil)))))
def f_law_kind : Fn := ⟨1, 1, false, false, b_law_kind⟩
def b_law_label_L1 : ISs := (.cons (.if_ (.cmp .NotIn (.b 0) (.b 4)) (.cons (.asg 2 (.bin .Add (.b 2) (.call "_law_two_to" (.cons (.v 3) .nil)))) .nil) .nil) .nil)
def b_law_label : ISs := (.cons (.asg 2 (.k (.int (0)))) (.cons (.for_ (.p2 (.v 3) (.v 4)) (.enum (.v 1)) b_law_label_L1) (.cons (.ret (.v 2)) .nil)))
def f_law_label : Fn := ⟨2, 5, false, false, b_law_label⟩
def b_law_least_L1 : ISs := (.cons (.asg 9 (.lcf [10] (.k (.int (1))) (.v 10) (.r1 (.v 3)) (.cmp .Eq (.bin .Mod (.bin .FloorDiv (.b 8) (.call "_law_two_to" (.cons (.v 10) .nil))) (.k (.int (2)))) (.k (.int (1)))))) (.cons (.app 7 (.bin .Sub (.b 3) (.pr .len (.b 9)))) .nil))
def b_law_least_L2 : ISs := (.cons (.asg 14 (.ite (.cmp .Lt (.bin .Add (.b 12) (.k (.int (1)))) (.pr .len (.b 1))) (.ix (.b 13) (.ite (.cmp .In (.bin .Add (.b 12) (.k (.int (1)))) (.b 5)) (.bin .Add (.b 8) (.k (.int (1)))) (.v 8))) (.k (.int (0))))) (.cons (.asg 15 (.lst (.cons (.ix (.b 11) (.bin .Add (.b 8) (.k (.int (1))))) .nil))) (.cons (.if_ (.notN (.b 14)) (.cons (.app 15 (.bin .Add (.b 14) (.bin .Mult (.ix (.b 4) (.ix (.b 1) (.b 12))) (.ix (.b 7) (.b 8))))) .nil) .nil) (.cons (.asg 15 (.lcf [16] (.v 16) (.v 16) (.e (.v 15)) (.notN (.b 16)))) (.cons (.setI 11 (.v 8) (.ite (.cmp .NotEq (.b 15) (.lst .nil)) (.pr .min (.b 15)) (.k .none))) .nil)))))
def b_law_least_L3 : ISs := (.cons (.asg 13 (.v 11)) (.cons (.asg 11 (.bin .Mult (.lst (.cons (.k .none) .nil)) (.bin .Add (.b 6) (.k (.int (1)))))) (.cons (.for_ (.v 8) (.r3 (.bin .Sub (.b 6) (.k (.int (1)))) (.neg (.k (.int (1)))) (.neg (.k (.int (1))))) b_law_least_L2) .nil)))
def b_law_least : ISs := (.cons (.asg2 4 5 (.dzip (.v 0) (.v 2)) (.call "_law_breaks" (.cons (.v 0) (.cons (.v 1) .nil)))) (.cons (.asg 6 (.call "_law_two_to" (.cons (.v 3) .nil))) (.cons (.asg 7 (.lst .nil)) (.cons (.for_ (.v 8) (.r1 (.v 6)) b_law_least_L1) (.cons (.asg 11 (.bin .Mult (.lst (.cons (.k (.int (0))) .nil)) (.bin .Add (.b 6) (.k (.int (1)))))) (.cons (.for_ (.v 12) (.r3 (.bin .Sub (.pr .len (.b 1)) (.k (.int (1)))) (.neg (.k (.int (1)))) (.neg (.k (.int (1))))) b_law_least_L3) (.cons (.ret (.ix (.b 11) (.k (.int (0))))) .nil)))))))
def f_law_least : Fn := ⟨4, 17, false, false, b_law_least⟩
def b_law_list_L1 : ISs := (.cons (.asg 5 (.callS "_law_draw" 0 (.cons (.v 3) .nil))) (.cons (.if_ (.cmp .NotIn (.b 5) (.b 2)) (.cons (.app 2 (.v 5)) .nil) .nil) .nil))
def b_law_list : ISs := (.cons (.asg2 2 3 (.lst .nil) (.callS "_law_choice" 0 (.cons (.lst (.cons (.k (.int (13))) (.cons (.k (.int (100))) .nil))) .nil))) (.cons (.for_ (.v 4) (.r1 (.bin .Add (.k (.int (1))) (.callS "_law_draw" 0 (.cons (.v 1) .nil)))) b_law_list_L1) (.cons (.ret (.pr .tuple (.b 2))) .nil)))
def f_law_list : Fn := ⟨1, 6, true, false, b_law_list⟩
def b_law_low : ISs := (.cons (.asg 2 (.call "_law_gcd" (.cons (.v 0) (.cons (.v 1) .nil)))) (.cons (.ret (.tup (.cons (.bin .FloorDiv (.b 0) (.b 2)) (.cons (.bin .FloorDiv (.b 1) (.b 2)) .nil)))) .nil))
def f_law_low : Fn := ⟨2, 3, false, false, b_law_low⟩
def b_law_mended_L1 : ISs := (.cons (.asg 11 (.bin .Mult (.callS "_law_draw" 0 (.cons (.k (.int (2))) .nil)) (.callS "_law_draw" 0 (.cons (.bin .Add (.k (.int (1))) (.bin .FloorDiv (.max2 (.k (.int (0))) (.v 7)) (.k (.int (3))))) .nil)))) (.cons (.asg2 5 7 (.bin .Add (.bin .Add (.b 5) (.pr .int (.cmp .In (.b 9) (.b 4)))) (.min2 (.v 11) (.max2 (.k (.int (0))) (.v 7)))) (.bin .Sub (.b 7) (.min2 (.v 11) (.max2 (.k (.int (0))) (.v 7))))) (.cons (.setI 8 (.v 10) (.v 5)) .nil)))
def b_law_mended_L2 : ISs := (.cons (.app 6 (.pr .tuple (.pr .sorted (.lcf [10] (.v 10) (.v 10) (.e (.v 1)) (.cmp .Eq (.bin .Mod (.bin .FloorDiv (.ix (.b 8) (.b 10)) (.call "_law_two_to" (.cons (.v 12) .nil))) (.k (.int (2)))) (.k (.int (0)))))))) .nil)
def b_law_mended : ISs := (.cons (.asg3 4 5 6 (.call "_law_breaks" (.cons (.v 1) (.cons (.v 2) .nil))) (.k (.int (0))) (.lst .nil)) (.cons (.asg 7 (.bin .Sub (.bin .Sub (.call "_law_two_to" (.cons (.v 3) .nil)) (.k (.int (1)))) (.pr .len (.b 4)))) (.cons (.asg 8 .dnew) (.cons (.for_ (.p2 (.v 9) (.v 10)) (.enum (.v 2)) b_law_mended_L1) (.cons (.if_ (.cmp .Lt (.b 7) (.k (.int (0)))) (.cons (.ret (.k .none)) .nil) .nil) (.cons (.for_ (.v 12) (.r1 (.v 3)) b_law_mended_L2) (.cons (.ret (.pr .tuple (.b 6))) .nil)))))))
def f_law_mended : Fn := ⟨3, 13, true, false, b_law_mended⟩
def b_law_mixed_L1 : ISs := (.cons (.asg 3 (.bin .Add (.b 3) (.tup (.cons (.popI 2 (.callS "_law_draw" 0 (.cons (.pr .len (.b 2)) .nil))) .nil)))) .nil)
def b_law_mixed : ISs := (.cons (.asg2 2 3 (.pr .list (.b 1)) (.tup .nil)) (.cons (.while_ (.cmp .NotEq (.b 2) (.lst .nil)) b_law_mixed_L1) (.cons (.ret (.v 3)) .nil)))
def f_law_mixed : Fn := ⟨1, 4, true, false, b_law_mixed⟩
def b_law_moved : ISs := (.cons (.asg 2 (.pr .tuple (.lcf [3] (.v 3) (.v 3) (.e (.v 0)) (.cmp .In (.b 3) (.b 1))))) (.cons (.ret (.bin .Add (.b 2) (.pr .tuple (.lcf [3] (.v 3) (.v 3) (.e (.v 0)) (.cmp .NotIn (.b 3) (.b 1)))))) .nil))
def f_law_moved : Fn := ⟨2, 4, false, false, b_law_moved⟩
def b_law_moves_named : ISs := (.cons (.ret (.pr .tuple (.lc [2] (.pr .tuple (.pr .sorted (.call "_law_named" (.cons (.v 0) (.cons (.v 2) .nil))))) (.v 2) (.e (.v 1))))) .nil)
def f_law_moves_named : Fn := ⟨2, 3, false, false, b_law_moves_named⟩
def b_law_named : ISs := (.cons (.ret (.pr .tuple (.lc [2] (.ix (.b 0) (.b 2)) (.v 2) (.e (.v 1))))) .nil)
def f_law_named : Fn := ⟨2, 3, false, false, b_law_named⟩
def b_law_next : ISs := (.cons (.asgT (.p2 (.v 2) (.v 3)) (.v 1)) (.cons (.asgT (.p2 (.v 4) (.v 5)) (.ix (.b 0) (.neg (.k (.int (1)))))) (.cons (.if_ (.cmp .Eq (.b 2) (.k (.str ("undo")))) (.cons (.ret (.tup (.cons (.slu (.b 0) (.neg (.k (.int (1))))) (.cons (.k .none) .nil)))) .nil) .nil) (.cons (.if_ (.cmp .Eq (.b 2) (.k (.str ("move")))) (.cons (.ret (.tup (.cons (.bin .Add (.b 0) (.lst (.cons (.tup (.cons (.call "_law_moved" (.cons (.v 4) (.cons (.v 3) .nil))) (.cons (.bin .Add (.b 5) (.pr .len (.b 3))) .nil))) .nil))) (.cons (.pr .len (.b 3)) .nil)))) .nil) .nil) (.cons (.if_ (.cmp .Eq (.b 2) (.k (.str ("add")))) (.cons (.ret (.tup (.cons (.bin .Add (.b 0) (.lst (.cons (.tup (.cons (.bin .Add (.tup (.cons (.v 3) .nil)) (.b 4)) (.cons (.v 5) .nil))) .nil))) (.cons (.k .none) .nil)))) .nil) .nil) (.cons (.ret (.tup (.cons (.bin .Add (.b 0) (.lst (.cons (.tup (.cons (.pr .tuple (.lcf [6] (.v 6) (.v 6) (.e (.v 4)) (.cmp .NotEq (.b 6) (.b 3)))) (.cons (.v 5) .nil))) .nil))) (.cons (.k .none) .nil)))) .nil))))))
def f_law_next : Fn := ⟨2, 7, false, false, b_law_next⟩
def b_law_no_less : ISs := (.cons (.ret (.cmp .GtE (.bin .Mult (.ix (.b 0) (.k (.int (0)))) (.ix (.b 1) (.k (.int (1))))) (.bin .Mult (.ix (.b 1) (.k (.int (0)))) (.ix (.b 0) (.k (.int (1))))))) .nil)
def f_law_no_less : Fn := ⟨2, 2, false, false, b_law_no_less⟩
def b_law_one_up_right : ISs := (.cons (.asg 2 (.trg (.v 0))) (.cons (.asg 3 (.bin .Add (.bin .Add (.slb (.b 2) (.v 1) (.bin .Add (.b 1) (.k (.int (1))))) (.slu (.b 2) (.b 1))) (.sll (.b 2) (.bin .Add (.b 1) (.k (.int (1))))))) (.cons (.asg 4 (.pr .int (.cmp .Gt (.b 1) (.k (.int (0)))))) (.cons (.if_ (.or (.cmp .NotEq (.call "fewest_moves" (.cons (.v 2) (.cons (.v 3) .nil))) (.b 4)) (.cmp .NotEq (.call "fewest_for_top" (.cons (.v 2) (.cons (.slb (.b 2) (.v 1) (.bin .Add (.b 1) (.k (.int (1))))) .nil))) (.b 4))) (.cons (.ret (.k (.bool false))) .nil) .nil) (.cons (.if_ (.cmp .NotEq (.call "least_cost" (.cons (.v 2) (.cons (.v 3) (.cons (.bin .Mult (.tup (.cons (.k (.int (7))) .nil)) (.b 0)) (.cons (.k (.int (1))) .nil))))) (.bin .Mult (.k (.int (7))) (.b 4))) (.cons (.ret (.k (.bool false))) .nil) .nil) (.cons (.if_ (.cmp .NotEq (.ix (.call "hidden_move" (.cons (.v 2) (.cons (.tup .nil) (.cons (.k (.int (0))) (.cons (.v 3) .nil))))) (.k (.int (0)))) (.ite (.cmp .Gt (.b 1) (.k (.int (0)))) (.k (.int (1))) (.bin .Add (.b 0) (.k (.int (1)))))) (.cons (.ret (.k (.bool false))) .nil) .nil) (.cons (.ret (.cmp .Eq (.callF "trade_off" (.cons (.v 2) (.cons (.v 3) (.cons (.bin .Mult (.tup (.cons (.k (.int (7))) .nil)) (.b 0)) .nil)))) (.lst (.cons (.bin .Mult (.k (.int (7))) (.b 4)) .nil)))) .nil)))))))
def f_law_one_up_right : Fn := ⟨2, 5, false, false, b_law_one_up_right⟩
def b_law_orders_L1 : ISs := (.cons (.asg 3 (.bin .Add (.b 3) (.lc [5] (.bin .Add (.bin .Add (.slu (.b 4) (.b 5)) (.tup (.cons (.v 2) .nil))) (.sll (.b 4) (.b 5))) (.v 5) (.r1 (.bin .Add (.pr .len (.b 4)) (.k (.int (1)))))))) .nil)
def b_law_orders_L2 : ISs := (.cons (.asg 3 (.lst .nil)) (.cons (.for_ (.v 4) (.e (.v 1)) b_law_orders_L1) (.cons (.asg 1 (.v 3)) .nil)))
def b_law_orders : ISs := (.cons (.asg 1 (.lst (.cons (.tup .nil) .nil))) (.cons (.for_ (.v 2) (.e (.v 0)) b_law_orders_L2) (.cons (.ret (.v 1)) .nil)))
def f_law_orders : Fn := ⟨1, 6, false, false, b_law_orders⟩
def b_law_parts_L1 : ISs := (.cons (.app 7 (.pr .sum (.lc [6] (.bin .Mult (.ix (.b 2) (.b 6)) (.ix (.b 5) (.bin .Sub (.b 8) (.b 6)))) (.v 6) (.r1 (.bin .Add (.b 8) (.k (.int (1)))))))) .nil)
def b_law_parts_L2 : ISs := (.cons (.asg 5 (.lc [6] (.call "plan_count" (.cons (.v 3) (.cons (.v 4) (.cons (.v 6) .nil)))) (.v 6) (.r1 (.bin .Add (.b 1) (.k (.int (1))))))) (.cons (.asg 7 (.lst .nil)) (.cons (.for_ (.v 8) (.r1 (.bin .Add (.b 1) (.k (.int (1))))) b_law_parts_L1) (.cons (.asg 2 (.v 7)) .nil))))
def b_law_parts : ISs := (.cons (.asg 2 (.bin .Add (.lst (.cons (.k (.int (1))) .nil)) (.bin .Mult (.lst (.cons (.k (.int (0))) .nil)) (.b 1)))) (.cons (.for_ (.p2 (.v 3) (.v 4)) (.zip (.v 0) (.sll (.b 0) (.k (.int (1))))) b_law_parts_L2) (.cons (.ret (.ix (.b 2) (.b 1))) .nil)))
def f_law_parts : Fn := ⟨2, 9, false, false, b_law_parts⟩
def b_law_reached_L1 : ISs := (.cons (.asg 3 (.bin .Add (.b 3) (.lc [5] (.bin .Add (.b 5) (.tup (.cons (.v 4) .nil))) (.v 5) (.e (.v 3))))) .nil)
def b_law_reached_L2 : ISs := (.cons (.asg 9 (.call "_law_moved" (.cons (.v 7) (.cons (.v 8) .nil)))) (.cons (.if_ (.cmp .NotIn (.b 9) (.b 1)) (.cons (.setI 1 (.v 9) (.bin .Add (.ix (.b 1) (.b 7)) (.k (.int (1))))) (.cons (.app 6 (.v 9)) .nil)) .nil) .nil))
def b_law_reached_L3 : ISs := (.cons (.for_ (.v 8) (.e (.v 3)) b_law_reached_L2) .nil)
def b_law_reached_L4 : ISs := (.cons (.asg 6 (.lst .nil)) (.cons (.for_ (.v 7) (.e (.v 2)) b_law_reached_L3) (.cons (.asg 2 (.v 6)) .nil)))
def b_law_reached : ISs := (.cons (.asg3 1 2 3 (.dsp (.v 0) (.k (.int (0)))) (.lst (.cons (.v 0) .nil)) (.lst (.cons (.tup .nil) .nil))) (.cons (.for_ (.v 4) (.e (.pr .sorted (.b 0))) b_law_reached_L1) (.cons (.while_ (.cmp .NotEq (.b 2) (.lst .nil)) b_law_reached_L4) (.cons (.ret (.v 1)) .nil))))
def f_law_reached : Fn := ⟨1, 10, false, false, b_law_reached⟩
def b_law_reversed_right : ISs := (.cons (.asg2 1 2 (.trg (.v 0)) (.bin .Mult (.tup (.cons (.k (.int (1))) .nil)) (.b 0))) (.cons (.asg 3 (.rev (.b 1))) (.cons (.if_ (.or (.cmp .NotEq (.callF "breaks" (.cons (.v 1) (.cons (.v 3) .nil))) (.lrg2 (.k (.int (1))) (.v 0))) (.cmp .NotEq (.call "least_cost" (.cons (.v 1) (.cons (.v 3) (.cons (.v 2) (.cons (.k (.int (30))) .nil))))) (.bin .Sub (.b 0) (.k (.int (1)))))) (.cons (.ret (.k (.bool false))) .nil) .nil) (.cons (.asg 4 (.callF "trade_off" (.cons (.v 1) (.cons (.v 3) (.cons (.v 2) .nil))))) (.cons (.if_ (.or (.cmp .NotEq (.ix (.b 4) (.neg (.k (.int (1))))) (.bin .Sub (.b 0) (.k (.int (1))))) (.cmp .Lt (.call "plan_count" (.cons (.v 1) (.cons (.v 3) (.cons (.call "fewest_moves" (.cons (.v 1) (.cons (.v 3) .nil))) .nil)))) (.k (.int (1))))) (.cons (.ret (.k (.bool false))) .nil) .nil) (.cons (.asg 5 (.ite (.cmp .Gt (.b 0) (.k (.int (1)))) (.call "cheapest_plan" (.cons (.v 1) (.cons (.v 3) (.cons (.v 2) (.cons (.bin .Sub (.b 0) (.k (.int (1)))) .nil))))) (.tup .nil))) (.cons (.ret (.and (.cmp .Eq (.lcf [6] (.v 6) (.v 6) (.e (.v 5)) (.cmp .NotEq (.pr .len (.b 6)) (.k (.int (1))))) (.lst .nil)) (.cmp .Eq (.call "apply" (.cons (.v 1) (.cons (.v 5) .nil))) (.b 3)))) .nil)))))))
def f_law_reversed_right : Fn := ⟨1, 7, false, false, b_law_reversed_right⟩
def b_law_selection : ISs := (.cons (.asg 2 (.callS "_law_choice" 0 (.cons (.lst (.cons (.k (.int (2))) (.cons (.k (.int (4))) (.cons (.k (.int (1))) .nil)))) .nil))) (.cons (.ret (.pr .tuple (.pr .sorted (.lcf [3] (.v 3) (.v 3) (.e (.v 1)) (.cmp .Eq (.callS "_law_draw" 0 (.cons (.v 2) .nil)) (.k (.int (0)))))))) .nil))
def f_law_selection : Fn := ⟨1, 4, true, false, b_law_selection⟩
def b_law_selections_L1 : ISs := (.cons (.asg 1 (.bin .Add (.b 1) (.lc [3] (.bin .Add (.b 3) (.tup (.cons (.v 2) .nil))) (.v 3) (.e (.v 1))))) .nil)
def b_law_selections : ISs := (.cons (.asg 1 (.lst (.cons (.tup .nil) .nil))) (.cons (.for_ (.v 2) (.e (.pr .sorted (.b 0))) b_law_selections_L1) (.cons (.ret (.v 1)) .nil)))
def f_law_selections : Fn := ⟨1, 4, false, false, b_law_selections⟩
def b_law_sets_L1 : ISs := (.cons (.asg 1 (.bin .Add (.b 1) (.lc [3] (.bin .Add (.b 3) (.tup (.cons (.v 2) .nil))) (.v 3) (.e (.v 1))))) .nil)
def b_law_sets : ISs := (.cons (.asg 1 (.lst (.cons (.tup .nil) .nil))) (.cons (.for_ (.v 2) (.e (.pr .sorted (.b 0))) b_law_sets_L1) (.cons (.ret (.v 1)) .nil)))
def f_law_sets : Fn := ⟨1, 4, false, false, b_law_sets⟩
def b_law_small : ISs := (.cons (.ret (.cmp .LtE (.bin .Mult (.ix (.b 0) (.k (.int (0)))) (.b 1)) (.ix (.b 0) (.k (.int (1)))))) .nil)
def f_law_small : Fn := ⟨2, 2, false, false, b_law_small⟩
def b_law_some_moves : ISs := (.cons (.ret (.pr .tuple (.lc [3] (.callS "_law_selection" 0 (.cons (.v 1) .nil)) (.v 3) (.r1 (.callS "_law_draw" 0 (.cons (.bin .Add (.b 2) (.k (.int (1)))) .nil)))))) .nil)
def f_law_some_moves : Fn := ⟨2, 4, true, false, b_law_some_moves⟩
def b_law_spread_out_L1 : ISs := (.cons (.asg 7 (.call "_law_moved" (.cons (.v 5) (.cons (.v 6) .nil)))) (.cons (.setI 4 (.v 7) (.bin .Add (.get2 (.b 4) (.v 7) (.k (.int (0)))) (.ix (.b 2) (.b 5)))) .nil))
def b_law_spread_out_L2 : ISs := (.cons (.for_ (.v 6) (.e (.call "_law_selections" (.cons (.v 0) .nil))) b_law_spread_out_L1) .nil)
def b_law_spread_out_L3 : ISs := (.cons (.asg 4 .dnew) (.cons (.for_ (.v 5) (.e (.v 2)) b_law_spread_out_L2) (.cons (.asg 2 (.v 4)) .nil)))
def b_law_spread_out : ISs := (.cons (.asg 2 (.dsp (.v 0) (.k (.int (1))))) (.cons (.for_ (.v 3) (.r1 (.v 1)) b_law_spread_out_L3) (.cons (.ret (.v 2)) .nil)))
def f_law_spread_out : Fn := ⟨2, 8, false, false, b_law_spread_out⟩
def b_law_step : ISs := (.cons (.asg 2 (.pr .tuple (.lc [3] (.ix (.b 0) (.b 3)) (.v 3) (.e (.v 1))))) (.cons (.ret (.bin .Add (.b 2) (.pr .tuple (.lcf [3, 4] (.v 4) (.p2 (.v 3) (.v 4)) (.enum (.v 0)) (.cmp .NotIn (.b 3) (.b 1)))))) .nil))
def f_law_step : Fn := ⟨2, 5, false, false, b_law_step⟩
def b_law_target : ISs := (.cons (.asg 2 (.callS "_law_draw" 0 (.cons (.k (.int (4))) .nil))) (.cons (.if_ (.cmp .Eq (.b 2) (.k (.int (0)))) (.cons (.ret (.call "_law_after" (.cons (.v 1) (.cons (.callS "_law_some_moves" 0 (.cons (.v 1) (.cons (.k (.int (3))) .nil))) .nil)))) .nil) .nil) (.cons (.if_ (.cmp .Eq (.b 2) (.k (.int (1)))) (.cons (.asg 3 (.callS "_law_draw" 0 (.cons (.bin .Add (.pr .len (.b 1)) (.k (.int (1)))) .nil))) (.cons (.ret (.bin .Add (.rev (.slu (.b 1) (.b 3))) (.sll (.b 1) (.b 3)))) .nil)) .nil) (.cons (.ret (.callS "_law_mixed" 0 (.cons (.v 1) .nil))) .nil))))
def f_law_target : Fn := ⟨1, 4, true, false, b_law_target⟩
def b_law_two_to_L1 : ISs := (.cons (.asg 1 (.bin .Mult (.b 1) (.k (.int (2))))) .nil)
def b_law_two_to : ISs := (.cons (.asg 1 (.k (.int (1)))) (.cons (.for_ (.v 2) (.r1 (.v 0)) b_law_two_to_L1) (.cons (.ret (.v 1)) .nil)))
def f_law_two_to : Fn := ⟨1, 3, false, false, b_law_two_to⟩
def b_law_weights : ISs := (.cons (.asg 2 (.callS "_law_choice" 0 (.cons (.lst (.cons (.k (.int (1))) (.cons (.k (.int (3))) (.cons (.k (.int (1000))) .nil)))) .nil))) (.cons (.ret (.pr .tuple (.lc [3] (.bin .Add (.k (.int (1))) (.callS "_law_draw" 0 (.cons (.v 2) .nil))) (.v 3) (.e (.v 1))))) .nil))
def f_law_weights : Fn := ⟨1, 4, true, false, b_law_weights⟩
def b_law_word : ISs := (.cons (.asg 2 (.slu (.k (.str ("abcdefgh"))) (.bin .Add (.k (.int (1))) (.callS "_law_draw" 0 (.cons (.callS "_law_choice" 0 (.cons (.lst (.cons (.k (.int (2))) (.cons (.k (.int (4))) (.cons (.k (.int (8))) .nil)))) .nil)) .nil))))) (.cons (.ret (.join "" (.lc [3] (.callS "_law_choice" 0 (.cons (.v 2) .nil)) (.v 3) (.r1 (.bin .Add (.k (.int (1))) (.callS "_law_draw" 0 (.cons (.v 1) .nil))))))) .nil))
def f_law_word : Fn := ⟨1, 4, true, false, b_law_word⟩
def b_law_words_agree : ISs := (.cons (.asg 2 (.k (.str ("abcdefghijkl")))) (.cons (.asg 3 (.slu (.b 2) (.pr .len (.b 0)))) (.cons (.asg 4 (.join "" (.lc [5] (.ix (.b 2) (.index (.v 0) (.v 5))) (.v 5) (.e (.v 1))))) (.cons (.asg 6 (.pr .tuple (.lc [5] (.index (.v 0) (.v 5)) (.v 5) (.e (.v 1))))) (.cons (.if_ (.or (.cmp .NotEq (.call "fewest_for_word" (.cons (.v 3) (.cons (.v 4) .nil))) (.call "fewest_moves" (.cons (.v 0) (.cons (.v 1) .nil)))) (.cmp .NotEq (.call "count_copy_lists" (.cons (.v 3) (.cons (.v 4) .nil))) (.k (.int (1))))) (.cons (.ret (.k (.bool false))) .nil) .nil) (.cons (.ret (.cmp .Eq (.call "copy_list" (.cons (.v 3) (.cons (.v 4) .nil))) (.b 6))) .nil))))))
def f_law_words_agree : Fn := ⟨2, 7, false, false, b_law_words_agree⟩
def b_law_words_right : ISs := (.cons (.asg 1 (.callS "_law_word" 0 (.cons (.k (.int (7))) .nil))) (.cons (.asg 2 (.join "" (.callS "_law_mixed" 0 (.cons (.pr .tuple (.b 1)) .nil)))) (.cons (.asg 3 (.callS "_law_mixed" 0 (.cons (.pr .tuple (.k (.str ("abcdefgh")))) .nil))) (.cons (.asg2 4 5 (.call "_law_other_letters" (.cons (.v 1) (.cons (.v 3) .nil))) (.call "_law_other_letters" (.cons (.v 2) (.cons (.v 3) .nil)))) (.cons (.if_ (.cmp .NotEq (.call "fewest_for_word" (.cons (.v 4) (.cons (.v 5) .nil))) (.call "fewest_for_word" (.cons (.v 1) (.cons (.v 2) .nil)))) (.cons (.ret (.k (.bool false))) .nil) .nil) (.cons (.ret (.cmp .Eq (.call "count_copy_lists" (.cons (.v 4) (.cons (.v 5) .nil))) (.call "count_copy_lists" (.cons (.v 1) (.cons (.v 2) .nil))))) .nil))))))
def f_law_words_right : Fn := ⟨0, 6, true, false, b_law_words_right⟩
def b_wall_L1 : ISs := (.cons .pass .nil)
def b_wall : ISs := (.cons (.while_ (.k (.bool true)) b_wall_L1) .nil)
def f_wall : Fn := ⟨1, 1, false, false, b_wall⟩
def b_after_L1 : ISs := (.cons (.asg 0 (.call "moved" (.cons (.v 0) (.cons (.v 2) .nil)))) .nil)
def b_after : ISs := (.cons (.for_ (.v 2) (.e (.v 1)) b_after_L1) (.cons (.ret (.v 0)) .nil))
def f_after : Fn := ⟨2, 3, false, false, b_after⟩
def b_all_parts_L1 : ISs := (.cons (.aug 1 .Add (.lc [3] (.tup (.cons (.v 2) (.cons (.v 3) .nil))) (.v 3) (.r2 (.v 2) (.bin .Add (.b 0) (.k (.int (1))))))) .nil)
def b_all_parts : ISs := (.cons (.asg 1 (.lst .nil)) (.cons (.for_ (.v 2) (.r1 (.bin .Add (.b 0) (.k (.int (1))))) b_all_parts_L1) (.cons (.ret (.v 1)) .nil)))
def f_all_parts : Fn := ⟨1, 4, false, false, b_all_parts⟩
def b_allowed : ISs := (.cons (.asg2 4 5 (.bin .FloorDiv (.b 0) (.b 3)) (.bin .FloorDiv (.b 1) (.b 3))) (.cons (.if_ (.cmp .NotEq (.b 4) (.b 5)) (.cons (.ret (.ite (.cmp .Lt (.b 4) (.b 5)) (.lst (.cons (.tup (.cons (.k (.int (0))) (.cons (.k (.int (0))) .nil))) (.cons (.tup (.cons (.k (.int (0))) (.cons (.k (.int (1))) .nil))) (.cons (.tup (.cons (.k (.int (1))) (.cons (.k (.int (0))) .nil))) (.cons (.tup (.cons (.k (.int (1))) (.cons (.k (.int (1))) .nil))) .nil))))) (.lst .nil))) .nil) .nil) (.cons (.asg2 6 7 (.bin .Mod (.b 0) (.b 3)) (.bin .Mod (.b 1) (.b 3))) (.cons (.if_ (.or (.cmp .Lt (.b 6) (.b 7)) (.and (.cmp .Eq (.b 6) (.b 7)) (.v 2))) (.cons (.ret (.lst (.cons (.tup (.cons (.k (.int (0))) (.cons (.k (.int (0))) .nil))) (.cons (.tup (.cons (.k (.int (0))) (.cons (.k (.int (1))) .nil))) (.cons (.tup (.cons (.k (.int (1))) (.cons (.k (.int (1))) .nil))) .nil))))) .nil) .nil) (.cons (.ret (.lst (.cons (.tup (.cons (.k (.int (0))) (.cons (.k (.int (1))) .nil))) .nil))) .nil)))))
def f_allowed : Fn := ⟨4, 8, false, false, b_allowed⟩
def b_apply : ISs := (.cons (.ex (.call "check_list" (.cons (.v 0) .nil))) (.cons (.ex (.call "check_moves" (.cons (.v 0) (.cons (.v 1) .nil)))) (.cons (.ret (.call "after" (.cons (.v 0) (.cons (.v 1) .nil)))) .nil)))
def f_apply : Fn := ⟨2, 2, false, false, b_apply⟩
def b_apply_both_L1 : ISs := (.cons (.asg 4 (.call "moved" (.cons (.v 4) (.cons (.ite (.cmp .Eq (.b 5) (.k (.str ("top")))) (.v 6) (.call "rest_of" (.cons (.v 4) (.cons (.v 6) .nil)))) .nil)))) .nil)
def b_apply_both : ISs := (.cons (.ex (.call "check_list" (.cons (.v 0) .nil))) (.cons (.asg 2 (.and (.isi (.b 1) [.tuple]) (.cmp .LtE (.pr .len (.b 1)) (.k (.int (30)))))) (.cons (.if_ (.or (.not (.v 2)) (.not (.pr .all (.lc [3] (.call "is_double" (.cons (.v 0) (.cons (.v 3) .nil))) (.v 3) (.e (.v 1)))))) (.cons (.raise "E") .nil) .nil) (.cons (.asg 4 (.v 0)) (.cons (.for_ (.p2 (.v 5) (.v 6)) (.e (.v 1)) b_apply_both_L1) (.cons (.ret (.v 4)) .nil))))))
def f_apply_both : Fn := ⟨2, 7, false, false, b_apply_both⟩
def b_are_moves : ISs := (.cons (.if_ (.or (.not (.isi (.b 1) [.tuple])) (.cmp .Gt (.pr .len (.b 1)) (.k (.int (30))))) (.cons (.ret (.k (.bool false))) .nil) .nil) (.cons (.ret (.pr .all (.lc [2] (.call "is_selection" (.cons (.v 0) (.cons (.v 2) .nil))) (.v 2) (.e (.v 1))))) .nil))
def f_are_moves : Fn := ⟨2, 3, false, false, b_are_moves⟩
def b_best_both_L1 : ISs := (.cons (.app 4 (.bin .Add (.ix (.b 4) (.neg (.k (.int (1))))) (.ix (.b 2) (.index (.v 0) (.v 5))))) .nil)
def b_best_both_L2 : ISs := (.cons (.asg 8 (.call "next_table" (.cons (.v 4) (.cons (.v 8) (.cons (.v 9) .nil))))) .nil)
def b_best_both_L3 : ISs := (.cons (.asg 8 (.call "start_table" (.cons (.v 0) (.cons (.v 1) .nil)))) (.cons (.for_ (.v 9) (.e (.v 7)) b_best_both_L2) (.cons (.asg 10 (.get1 (.b 8) (.tup (.cons (.k (.int (0))) (.cons (.pr .len (.b 1)) .nil))))) (.cons (.if_ (.and (.notN (.b 10)) (.or (.isN (.b 6)) (.cmp .Lt (.ix (.b 10) (.k (.int (0)))) (.ix (.b 6) (.k (.int (0))))))) (.cons (.asg 6 (.tup (.cons (.ix (.b 10) (.k (.int (0)))) (.cons (.v 7) (.cons (.ix (.b 10) (.k (.int (1)))) .nil))))) .nil) .nil) .nil))))
def b_best_both : ISs := (.cons (.asg 4 (.lst (.cons (.k (.int (0))) .nil))) (.cons (.for_ (.v 5) (.e (.v 1)) b_best_both_L1) (.cons (.asg 6 (.k .none)) (.cons (.for_ (.v 7) (.e (.call "all_kinds" (.cons (.v 3) .nil))) b_best_both_L3) (.cons (.ret (.v 6)) .nil)))))
def f_best_both : Fn := ⟨4, 11, false, false, b_best_both⟩
def b_best_copies_L1 : ISs := (.cons (.asg 2 (.call "longer_rows" (.cons (.v 0) (.cons (.v 3) (.cons (.v 2) .nil))))) .nil)
def b_best_copies : ISs := (.cons (.ex (.call "check_words" (.cons (.v 0) (.cons (.v 1) .nil)))) (.cons (.asg 2 (.dsp (.tup (.cons (.k (.int (0))) (.cons (.neg (.k (.int (1)))) .nil))) (.tup (.cons (.k (.int (0))) (.cons (.k (.int (1))) (.cons (.tup .nil) .nil)))))) (.cons (.for_ (.v 3) (.e (.v 1)) b_best_copies_L1) (.cons (.asg 4 (.pr .min (.lc [5] (.ix (.ix (.b 2) (.b 5)) (.k (.int (0)))) (.v 5) (.e (.v 2))))) (.cons (.asg 6 (.lcf [5] (.ix (.b 2) (.b 5)) (.v 5) (.e (.v 2)) (.cmp .Eq (.ix (.ix (.b 2) (.b 5)) (.k (.int (0)))) (.b 4)))) (.cons (.ret (.tup (.cons (.v 4) (.cons (.pr .sum (.lc [7] (.ix (.b 7) (.k (.int (1)))) (.v 7) (.e (.v 6)))) (.cons (.ix (.ix (.b 6) (.k (.int (0)))) (.k (.int (2)))) .nil))))) .nil))))))
def f_best_copies : Fn := ⟨2, 8, false, false, b_best_copies⟩
def b_break_counts_L1 : ISs := (.cons (.asg 3 (.bin .Add (.bin .Add (.lst (.cons (.k (.int (0))) .nil)) (.b 1)) (.lst (.cons (.k (.int (0))) .nil)))) (.cons (.asg 1 (.lc [4] (.bin .Add (.bin .Mult (.bin .Add (.b 4) (.k (.int (1)))) (.ix (.b 3) (.bin .Add (.b 4) (.k (.int (1)))))) (.bin .Mult (.bin .Sub (.b 2) (.b 4)) (.ix (.b 3) (.b 4)))) (.v 4) (.r1 (.v 2)))) .nil))
def b_break_counts : ISs := (.cons (.asg 1 (.lst (.cons (.k (.int (1))) .nil))) (.cons (.for_ (.v 2) (.r2 (.k (.int (2))) (.bin .Add (.b 0) (.k (.int (1))))) b_break_counts_L1) (.cons (.ret (.v 1)) .nil)))
def f_break_counts : Fn := ⟨1, 5, false, false, b_break_counts⟩
def b_breaks : ISs := (.cons (.ex (.call "check_list" (.cons (.v 0) .nil))) (.cons (.ex (.call "check_target" (.cons (.v 0) (.cons (.v 1) .nil)))) (.cons (.retF (.callF "breaks_of" (.cons (.v 0) (.cons (.v 1) .nil)))) .nil)))
def f_breaks : Fn := ⟨2, 2, false, true, b_breaks⟩
def b_breaks_of : ISs := (.cons (.asg 2 (.lc [3] (.index (.v 0) (.v 3)) (.v 3) (.e (.v 1)))) (.cons (.retF (.lcf [4] (.v 4) (.v 4) (.r2 (.k (.int (1))) (.pr .len (.b 2))) (.cmp .Lt (.ix (.b 2) (.b 4)) (.ix (.b 2) (.bin .Sub (.b 4) (.k (.int (1)))))))) .nil))
def f_breaks_of : Fn := ⟨2, 5, false, true, b_breaks_of⟩
def b_chance : ISs := (.cons (.ex (.call "check_list" (.cons (.v 0) .nil))) (.cons (.ex (.call "check_target" (.cons (.v 0) (.cons (.v 1) .nil)))) (.cons (.ex (.call "check_number" (.cons (.v 2) .nil))) (.cons (.ret (.call "reduced" (.cons (.call "count_of" (.cons (.v 0) (.cons (.v 1) (.cons (.v 2) .nil)))) (.cons (.call "power" (.cons (.bin .Mult (.b 2) (.pr .len (.b 0))) .nil)) .nil)))) .nil))))
def f_chance : Fn := ⟨3, 3, false, false, b_chance⟩
def b_cheapest_both_L1 : ISs := (.cons (.asg 10 (.pr .tuple (.pr .sorted (.lc [11] (.ix (.b 1) (.b 11)) (.v 11) (.e (.v 9)))))) (.cons (.app 7 (.tup (.cons (.v 8) (.cons (.ite (.cmp .Eq (.b 8) (.k (.str ("top")))) (.v 10) (.call "rest_of" (.cons (.v 0) (.cons (.v 10) .nil)))) .nil)))) .nil))
def b_cheapest_both : ISs := (.cons (.ex (.call "check_double" (.cons (.v 0) (.cons (.v 1) (.cons (.v 2) (.cons (.v 3) .nil)))))) (.cons (.asg 4 (.call "best_both" (.cons (.v 0) (.cons (.v 1) (.cons (.v 2) (.cons (.v 3) .nil)))))) (.cons (.if_ (.isN (.b 4)) (.cons (.ret (.k .none)) .nil) .nil) (.cons (.asg 5 (.lc [6] (.lst .nil) (.v 6) (.r1 (.v 3)))) (.cons (.ex (.call "firsts_of" (.cons (.k (.int (0))) (.cons (.pr .len (.b 1)) (.cons (.ix (.b 4) (.k (.int (2)))) (.cons (.v 3) (.cons (.v 5) .nil))))))) (.cons (.asg 7 (.lst .nil)) (.cons (.for_ (.p2 (.v 8) (.v 9)) (.zip (.ix (.b 4) (.k (.int (1)))) (.v 5)) b_cheapest_both_L1) (.cons (.ret (.pr .tuple (.b 7))) .nil))))))))
def f_cheapest_both : Fn := ⟨4, 12, false, false, b_cheapest_both⟩
def b_cheapest_plan_L1 : ISs := (.cons (.asg 12 (.ix (.ix (.ix (.b 4) (.b 7)) (.tup (.cons (.v 10) (.cons (.v 11) .nil)))) (.k (.int (1))))) (.cons (.aug 8 .Add (.slb (.b 1) (.v 10) (.v 12))) (.cons (.aug 9 .Add (.lst (.cons (.tup (.cons (.v 10) (.cons (.v 12) .nil))) (.cons (.tup (.cons (.v 12) (.cons (.v 11) .nil))) .nil)))) .nil)))
def b_cheapest_plan_L2 : ISs := (.cons (.asg2 8 9 (.lst .nil) (.lst .nil)) (.cons (.for_ (.p2 (.v 10) (.v 11)) (.e (.v 5)) b_cheapest_plan_L1) (.cons (.app 6 (.pr .tuple (.pr .sorted (.b 8)))) (.cons (.asg 5 (.ite (.cmp .Gt (.b 7) (.k (.int (1)))) (.v 9) (.lst .nil))) (.cons (.asg 5 (.lcf [13] (.v 13) (.v 13) (.e (.v 5)) (.cmp .Lt (.ix (.b 13) (.k (.int (0)))) (.ix (.b 13) (.k (.int (1))))))) .nil)))))
def b_cheapest_plan : ISs := (.cons (.ex (.call "check_all" (.cons (.v 0) (.cons (.v 1) (.cons (.v 2) .nil))))) (.cons (.ex (.call "check_number" (.cons (.v 3) .nil))) (.cons (.asg 4 (.call "tables_for" (.cons (.v 0) (.cons (.v 1) (.cons (.v 2) (.cons (.v 3) .nil)))))) (.cons (.asg 5 (.lst (.cons (.tup (.cons (.k (.int (0))) (.cons (.pr .len (.b 1)) .nil))) .nil))) (.cons (.if_ (.cmp .NotIn (.ix (.b 5) (.k (.int (0)))) (.ix (.b 4) (.b 3))) (.cons (.ret (.k .none)) .nil) .nil) (.cons (.asg 6 (.lst .nil)) (.cons (.for_ (.v 7) (.r3 (.v 3) (.k (.int (0))) (.neg (.k (.int (1))))) b_cheapest_plan_L2) (.cons (.ret (.pr .tuple (.rev (.b 6)))) .nil))))))))
def f_cheapest_plan : Fn := ⟨4, 14, false, false, b_cheapest_plan⟩
def b_cheapest_within_L1 : ISs := (.cons (.if_ (.cmp .LtE (.call "cost_for" (.cons (.v 0) (.cons (.v 1) (.cons (.v 2) (.cons (.v 5) .nil))))) (.b 3)) (.cons (.ret (.v 5)) .nil) .nil) .nil)
def b_cheapest_within : ISs := (.cons (.ex (.call "check_all" (.cons (.v 0) (.cons (.v 1) (.cons (.v 2) .nil))))) (.cons (.if_ (.not (.call "is_between" (.cons (.v 3) (.cons (.k (.int (0))) (.cons (.k (.int (1000000))) .nil))))) (.cons (.raise "E") .nil) .nil) (.cons (.asg 4 (.pr .len (.callF "breaks_of" (.cons (.v 0) (.cons (.v 1) .nil))))) (.cons (.for_ (.v 5) (.r2 (.call "moves_for" (.cons (.v 4) .nil)) (.bin .Add (.b 4) (.k (.int (1))))) b_cheapest_within_L1) (.cons (.ret (.k .none)) .nil)))))
def f_cheapest_within : Fn := ⟨4, 6, false, false, b_cheapest_within⟩
def b_check_all : ISs := (.cons (.ex (.call "check_list" (.cons (.v 0) .nil))) (.cons (.ex (.call "check_target" (.cons (.v 0) (.cons (.v 1) .nil)))) (.cons (.ex (.call "check_weights" (.cons (.v 0) (.cons (.v 2) .nil)))) .nil)))
def f_check_all : Fn := ⟨3, 3, false, false, b_check_all⟩
def b_check_double : ISs := (.cons (.ex (.call "check_all" (.cons (.v 0) (.cons (.v 1) (.cons (.v 2) .nil))))) (.cons (.if_ (.not (.call "is_between" (.cons (.v 3) (.cons (.k (.int (0))) (.cons (.k (.int (6))) .nil))))) (.cons (.raise "E") .nil) .nil) .nil))
def f_check_double : Fn := ⟨4, 4, false, false, b_check_double⟩
def b_check_list : ISs := (.cons (.if_ (.not (.call "is_list" (.cons (.v 0) .nil))) (.cons (.raise "E") .nil) .nil) .nil)
def f_check_list : Fn := ⟨1, 1, false, false, b_check_list⟩
def b_check_most : ISs := (.cons (.ex (.call "check_list" (.cons (.v 0) .nil))) (.cons (.ex (.call "check_target" (.cons (.v 0) (.cons (.v 1) .nil)))) (.cons (.ex (.call "check_number" (.cons (.v 2) .nil))) .nil)))
def f_check_most : Fn := ⟨3, 3, false, false, b_check_most⟩
def b_check_moves : ISs := (.cons (.if_ (.not (.call "are_moves" (.cons (.v 0) (.cons (.v 1) .nil)))) (.cons (.raise "E") .nil) .nil) .nil)
def f_check_moves : Fn := ⟨2, 2, false, false, b_check_moves⟩
def b_check_number : ISs := (.cons (.if_ (.not (.call "is_between" (.cons (.v 0) (.cons (.k (.int (0))) (.cons (.k (.int (30))) .nil))))) (.cons (.raise "E") .nil) .nil) .nil)
def f_check_number : Fn := ⟨1, 1, false, false, b_check_number⟩
def b_check_positions : ISs := (.cons (.asg 2 (.and (.isi (.b 1) [.tuple]) (.pr .all (.lc [3] (.call "is_between" (.cons (.v 3) (.cons (.k (.int (0))) (.cons (.bin .Sub (.b 0) (.k (.int (1)))) .nil)))) (.v 3) (.e (.v 1)))))) (.cons (.if_ (.or (.not (.v 2)) (.not (.pr .all (.lc [4, 5] (.cmp .Lt (.b 4) (.b 5)) (.p2 (.v 4) (.v 5)) (.zip (.v 1) (.sll (.b 1) (.k (.int (1))))))))) (.cons (.raise "E") .nil) .nil) .nil))
def f_check_positions : Fn := ⟨2, 6, false, false, b_check_positions⟩
def b_check_sightings : ISs := (.cons (.asg 1 (.and (.isi (.b 0) [.tuple]) (.and (.cmp2 .LtE .LtE (.k (.int (2))) (.pr .len (.b 0)) (.k (.int (6)))) (.call "is_list" (.cons (.ix (.b 0) (.k (.int (0)))) .nil))))) (.cons (.if_ (.or (.not (.v 1)) (.not (.pr .all (.lc [2] (.call "is_target" (.cons (.ix (.b 0) (.k (.int (0)))) (.cons (.v 2) .nil))) (.v 2) (.e (.v 0)))))) (.cons (.raise "E") .nil) .nil) .nil))
def f_check_sightings : Fn := ⟨1, 3, false, false, b_check_sightings⟩
def b_check_size : ISs := (.cons (.if_ (.not (.call "is_between" (.cons (.v 0) (.cons (.k (.int (1))) (.cons (.k (.int (12))) .nil))))) (.cons (.raise "E") .nil) .nil) .nil)
def f_check_size : Fn := ⟨1, 1, false, false, b_check_size⟩
def b_check_target : ISs := (.cons (.if_ (.not (.call "is_target" (.cons (.v 0) (.cons (.v 1) .nil)))) (.cons (.raise "E") .nil) .nil) .nil)
def f_check_target : Fn := ⟨2, 2, false, false, b_check_target⟩
def b_check_top : ISs := (.cons (.if_ (.or (.and (.cmp .NotEq (.b 1) (.tup .nil)) (.not (.call "is_list" (.cons (.v 1) .nil)))) (.or (.not (.isi (.b 1) [.tuple])) (.not (.pr .all (.lc [2] (.cmp .In (.b 2) (.b 0)) (.v 2) (.e (.v 1))))))) (.cons (.raise "E") .nil) .nil) .nil)
def f_check_top : Fn := ⟨2, 3, false, false, b_check_top⟩
def b_check_weights : ISs := (.cons (.asg 2 (.and (.isi (.b 1) [.tuple]) (.cmp .Eq (.pr .len (.b 1)) (.pr .len (.b 0))))) (.cons (.if_ (.or (.not (.v 2)) (.not (.pr .all (.lc [3] (.call "is_between" (.cons (.v 3) (.cons (.k (.int (1))) (.cons (.k (.int (1000))) .nil)))) (.v 3) (.e (.v 1)))))) (.cons (.raise "E") .nil) .nil) .nil))
def f_check_weights : Fn := ⟨2, 4, false, false, b_check_weights⟩
def b_check_words : ISs := (.cons (.if_ (.not (.call "is_word" (.cons (.v 0) .nil))) (.cons (.raise "E") .nil) .nil) (.cons (.if_ (.or (.not (.call "is_word" (.cons (.v 1) .nil))) (.cmp .NotEq (.pr .sorted (.b 1)) (.pr .sorted (.b 0)))) (.cons (.raise "E") .nil) .nil) .nil))
def f_check_words : Fn := ⟨2, 2, false, false, b_check_words⟩
def b_choose_L1 : ISs := (.cons (.asg 2 (.bin .FloorDiv (.bin .Mult (.b 2) (.bin .Sub (.b 0) (.b 3))) (.bin .Add (.b 3) (.k (.int (1)))))) .nil)
def b_choose : ISs := (.cons (.if_ (.cmp .Lt (.b 0) (.b 1)) (.cons (.ret (.k (.int (0)))) .nil) .nil) (.cons (.asg 2 (.k (.int (1)))) (.cons (.for_ (.v 3) (.r1 (.v 1)) b_choose_L1) (.cons (.ret (.v 2)) .nil))))
def f_choose : Fn := ⟨2, 4, false, false, b_choose⟩
def b_copy_list : ISs := (.cons (.ret (.ix (.call "best_copies" (.cons (.v 0) (.cons (.v 1) .nil))) (.k (.int (2))))) .nil)
def f_copy_list : Fn := ⟨2, 2, false, false, b_copy_list⟩
def b_cost_for : ISs := (.cons (.asg 4 (.get1 (.ix (.call "tables_for" (.cons (.v 0) (.cons (.v 1) (.cons (.v 2) (.cons (.v 3) .nil))))) (.b 3)) (.tup (.cons (.k (.int (0))) (.cons (.pr .len (.b 1)) .nil))))) (.cons (.ret (.ite (.isN (.b 4)) (.k .none) (.ix (.b 4) (.k (.int (0)))))) .nil))
def f_cost_for : Fn := ⟨4, 5, false, false, b_cost_for⟩
def b_count_breaks : ISs := (.cons (.ex (.call "check_size" (.cons (.v 0) .nil))) (.cons (.if_ (.not (.call "is_between" (.cons (.v 1) (.cons (.k (.int (0))) (.cons (.k (.int (30))) .nil))))) (.cons (.raise "E") .nil) .nil) (.cons (.ret (.ite (.cmp .Lt (.b 1) (.b 0)) (.ix (.call "break_counts" (.cons (.v 0) .nil)) (.b 1)) (.k (.int (0))))) .nil)))
def f_count_breaks : Fn := ⟨2, 2, false, false, b_count_breaks⟩
def b_count_copy_lists : ISs := (.cons (.ret (.ix (.call "best_copies" (.cons (.v 0) (.cons (.v 1) .nil))) (.k (.int (1))))) .nil)
def f_count_copy_lists : Fn := ⟨2, 2, false, false, b_count_copy_lists⟩
def b_count_lists_L1 : ISs := (.cons (.asg 4 (.bin .Add (.bin .Add (.lst (.cons (.k (.int (0))) .nil)) (.b 2)) (.lst (.cons (.k (.int (0))) .nil)))) (.cons (.asg 2 (.lc [5] (.bin .Add (.bin .Mult (.bin .Add (.b 5) (.k (.int (1)))) (.ix (.b 4) (.bin .Add (.b 5) (.k (.int (1)))))) (.bin .Mult (.bin .Sub (.b 3) (.b 5)) (.ix (.b 4) (.b 5)))) (.v 5) (.r1 (.v 3)))) .nil))
def b_count_lists : ISs := (.cons (.ex (.call "check_size" (.cons (.v 0) .nil))) (.cons (.ex (.call "check_number" (.cons (.v 1) .nil))) (.cons (.asg 2 (.lst (.cons (.k (.int (1))) .nil))) (.cons (.for_ (.v 3) (.r2 (.k (.int (2))) (.bin .Add (.b 0) (.k (.int (1))))) b_count_lists_L1) (.cons (.ret (.pr .sum (.slu (.b 2) (.call "power" (.cons (.v 1) .nil))))) .nil)))))
def f_count_lists : Fn := ⟨2, 6, false, false, b_count_lists⟩
def b_count_of : ISs := (.cons (.asg 3 (.pr .len (.b 0))) (.cons (.ret (.call "choose" (.cons (.bin .Add (.bin .Sub (.bin .Sub (.call "power" (.cons (.v 2) .nil)) (.pr .len (.callF "breaks_of" (.cons (.v 0) (.cons (.v 1) .nil))))) (.k (.int (1)))) (.b 3)) (.cons (.v 3) .nil)))) .nil))
def f_count_of : Fn := ⟨3, 4, false, false, b_count_of⟩
def b_decode_L1 : ISs := (.cons (.app 3 (.pr .tuple (.pr .sorted (.lcf [5, 6] (.v 5) (.p2 (.v 5) (.v 6)) (.zip (.v 0) (.v 2)) (.cmp .Eq (.bin .Mod (.bin .FloorDiv (.b 6) (.call "power" (.cons (.v 4) .nil))) (.k (.int (2)))) (.k (.int (0)))))))) .nil)
def b_decode : ISs := (.cons (.asg 3 (.lst .nil)) (.cons (.for_ (.v 4) (.r1 (.v 1)) b_decode_L1) (.cons (.ret (.pr .tuple (.b 3))) .nil)))
def f_decode : Fn := ⟨3, 7, false, false, b_decode⟩
def b_distance : ISs := (.cons (.ex (.call "check_size" (.cons (.v 0) .nil))) (.cons (.ex (.call "check_number" (.cons (.v 1) .nil))) (.cons (.asg 2 (.call "far" (.cons (.v 0) (.cons (.v 1) .nil)))) (.cons (.ret (.call "reduced" (.cons (.ix (.b 2) (.k (.int (0)))) (.cons (.ix (.b 2) (.k (.int (1)))) .nil)))) .nil))))
def f_distance : Fn := ⟨2, 3, false, false, b_distance⟩
def b_far_L1 : ISs := (.cons (.asg 8 (.call "choose" (.cons (.bin .Add (.bin .Sub (.bin .Sub (.call "power" (.cons (.v 1) .nil)) (.b 6)) (.k (.int (1)))) (.b 0)) (.cons (.v 0) .nil)))) (.cons (.aug 5 .Add (.bin .Mult (.b 7) (.pr .abs (.bin .Sub (.bin .Mult (.b 8) (.b 4)) (.b 3))))) .nil))
def b_far : ISs := (.cons (.asg2 2 3 (.call "break_counts" (.cons (.v 0) .nil)) (.call "power" (.cons (.bin .Mult (.b 1) (.b 0)) .nil))) (.cons (.asg2 4 5 (.pr .sum (.b 2)) (.k (.int (0)))) (.cons (.for_ (.p2 (.v 6) (.v 7)) (.enum (.v 2)) b_far_L1) (.cons (.ret (.tup (.cons (.v 5) (.cons (.bin .Mult (.bin .Mult (.k (.int (2))) (.b 3)) (.b 4)) .nil)))) .nil))))
def f_far : Fn := ⟨2, 9, false, false, b_far⟩
def b_fewest_for_top : ISs := (.cons (.ex (.call "check_list" (.cons (.v 0) .nil))) (.cons (.ex (.call "check_top" (.cons (.v 0) (.cons (.v 1) .nil)))) (.cons (.ret (.call "moves_for" (.cons (.pr .len (.callF "breaks_of" (.cons (.v 0) (.cons (.call "join" (.cons (.v 0) (.cons (.v 1) .nil))) .nil)))) .nil))) .nil)))
def f_fewest_for_top : Fn := ⟨2, 2, false, false, b_fewest_for_top⟩
def b_fewest_for_word : ISs := (.cons (.ret (.call "moves_for" (.cons (.ix (.call "best_copies" (.cons (.v 0) (.cons (.v 1) .nil))) (.k (.int (0)))) .nil))) .nil)
def f_fewest_for_word : Fn := ⟨2, 2, false, false, b_fewest_for_word⟩
def b_fewest_moves : ISs := (.cons (.ex (.call "check_list" (.cons (.v 0) .nil))) (.cons (.ex (.call "check_target" (.cons (.v 0) (.cons (.v 1) .nil)))) (.cons (.ret (.call "moves_for" (.cons (.pr .len (.callF "breaks_of" (.cons (.v 0) (.cons (.v 1) .nil)))) .nil))) .nil)))
def f_fewest_moves : Fn := ⟨2, 2, false, false, b_fewest_moves⟩
def b_fewest_total : ISs := (.cons (.ex (.call "check_sightings" (.cons (.v 0) .nil))) (.cons (.ret (.pr .sum (.lc [1, 2] (.call "moves_for" (.cons (.pr .len (.callF "breaks_of" (.cons (.v 1) (.cons (.v 2) .nil)))) .nil)) (.p2 (.v 1) (.v 2)) (.zip (.v 0) (.sll (.b 0) (.k (.int (1)))))))) .nil))
def f_fewest_total : Fn := ⟨1, 3, false, false, b_fewest_total⟩
def b_fewest_touching : ISs := (.cons (.ex (.call "check_most" (.cons (.v 0) (.cons (.v 1) (.cons (.v 2) .nil))))) (.cons (.ret (.call "least_number" (.cons (.v 0) (.cons (.v 1) (.cons (.v 2) .nil))))) .nil))
def f_fewest_touching : Fn := ⟨3, 3, false, false, b_fewest_touching⟩
def b_hidden_move_L1 : ISs := (.cons (.app 7 (.call "allowed" (.cons (.ix (.b 4) (.bin .Sub (.b 8) (.k (.int (1))))) (.cons (.ix (.b 4) (.b 8)) (.cons (.cmp .Lt (.ix (.b 6) (.bin .Sub (.b 8) (.k (.int (1))))) (.ix (.b 6) (.b 8))) (.cons (.call "power" (.cons (.v 2) .nil)) .nil)))))) .nil)
def b_hidden_move_L2 : ISs := (.cons (.app 9 (.lc [13] (.pr .sum (.lcf [11, 12] (.ix (.ix (.b 9) (.neg (.k (.int (1))))) (.b 11)) (.p2 (.v 11) (.v 12)) (.e (.v 10)) (.cmp .Eq (.b 12) (.b 13)))) (.v 13) (.e (.tup (.cons (.k (.int (0))) (.cons (.k (.int (1))) .nil)))))) .nil)
def b_hidden_move_L3 : ISs := (.cons (.app 14 (.lc [13] (.pr .sum (.lcf [11, 12] (.ix (.ix (.b 14) (.neg (.k (.int (1))))) (.b 12)) (.p2 (.v 11) (.v 12)) (.e (.v 10)) (.cmp .Eq (.b 11) (.b 13)))) (.v 13) (.e (.tup (.cons (.k (.int (0))) (.cons (.k (.int (1))) .nil)))))) .nil)
def b_hidden_move : ISs := (.cons (.ex (.call "check_list" (.cons (.v 0) .nil))) (.cons (.ex (.call "check_moves" (.cons (.v 0) (.cons (.v 1) .nil)))) (.cons (.if_ (.cmp .Eq (.pr .len (.b 1)) (.k (.int (30)))) (.cons (.raise "E") .nil) .nil) (.cons (.if_ (.not (.call "is_between" (.cons (.v 2) (.cons (.k (.int (0))) (.cons (.pr .len (.b 1)) .nil))))) (.cons (.raise "E") .nil) .nil) (.cons (.ex (.call "check_target" (.cons (.v 0) (.cons (.v 3) .nil)))) (.cons (.asg 4 (.lc [5] (.call "label_of" (.cons (.v 5) (.cons (.v 1) .nil))) (.v 5) (.e (.v 3)))) (.cons (.asg 6 (.lc [5] (.index (.v 0) (.v 5)) (.v 5) (.e (.v 3)))) (.cons (.asg 7 (.lst .nil)) (.cons (.for_ (.v 8) (.r2 (.k (.int (1))) (.pr .len (.b 3))) b_hidden_move_L1) (.cons (.asg 9 (.lst (.cons (.lst (.cons (.k (.int (1))) (.cons (.k (.int (1))) .nil))) .nil))) (.cons (.for_ (.v 10) (.e (.v 7)) b_hidden_move_L2) (.cons (.asg 14 (.lst (.cons (.lst (.cons (.k (.int (1))) (.cons (.k (.int (1))) .nil))) .nil))) (.cons (.for_ (.v 10) (.e (.rev (.b 7))) b_hidden_move_L3) (.cons (.asg 14 (.rev (.b 14))) (.cons (.asg 15 (.pr .sum (.ix (.b 9) (.neg (.k (.int (1))))))) (.cons (.if_ (.cmp .Eq (.b 15) (.k (.int (0)))) (.cons (.ret (.k .none)) .nil) .nil) (.cons (.asg 16 (.lcf [8, 5] (.v 5) (.p2 (.v 8) (.v 5)) (.enum (.v 3)) (.cmp .Eq (.bin .Mult (.ix (.ix (.b 9) (.b 8)) (.k (.int (1)))) (.ix (.ix (.b 14) (.b 8)) (.k (.int (1))))) (.k (.int (0)))))) (.cons (.asg 17 (.lcf [8, 5] (.v 5) (.p2 (.v 8) (.v 5)) (.enum (.v 3)) (.cmp .Eq (.bin .Mult (.ix (.ix (.b 9) (.b 8)) (.k (.int (0)))) (.ix (.ix (.b 14) (.b 8)) (.k (.int (0))))) (.k (.int (0)))))) (.cons (.ret (.tup (.cons (.v 15) (.cons (.pr .tuple (.pr .sorted (.b 16))) (.cons (.pr .tuple (.pr .sorted (.b 17))) .nil))))) .nil)))))))))))))))))))
def f_hidden_move : Fn := ⟨4, 18, false, false, b_hidden_move⟩
def b_is_between : ISs := (.cons (.ret (.and (.isi (.b 0) [.int]) (.and (.not (.isi (.b 0) [.bool])) (.cmp2 .LtE .LtE (.v 1) (.v 0) (.v 2))))) .nil)
def f_is_between : Fn := ⟨3, 3, false, false, b_is_between⟩
def b_is_list : ISs := (.cons (.if_ (.or (.not (.isi (.b 0) [.tuple])) (.not (.cmp2 .LtE .LtE (.k (.int (1))) (.pr .len (.b 0)) (.k (.int (12)))))) (.cons (.ret (.k (.bool false))) .nil) .nil) (.cons (.ret (.and (.pr .all (.lc [1] (.call "is_between" (.cons (.v 1) (.cons (.k (.int (0))) (.cons (.k (.int (99))) .nil)))) (.v 1) (.e (.v 0)))) (.cmp .Eq (.pr .lenset (.b 0)) (.pr .len (.b 0))))) .nil))
def f_is_list : Fn := ⟨1, 2, false, false, b_is_list⟩
def b_is_moves : ISs := (.cons (.ex (.call "check_list" (.cons (.v 0) .nil))) (.cons (.ret (.call "are_moves" (.cons (.v 0) (.cons (.v 1) .nil)))) .nil))
def f_is_moves : Fn := ⟨2, 2, false, false, b_is_moves⟩
def b_is_selection : ISs := (.cons (.if_ (.or (.not (.isi (.b 1) [.tuple])) (.not (.pr .all (.lc [2] (.call "is_between" (.cons (.v 2) (.cons (.k (.int (0))) (.cons (.k (.int (99))) .nil)))) (.v 2) (.e (.v 1)))))) (.cons (.ret (.k (.bool false))) .nil) .nil) (.cons (.if_ (.not (.pr .all (.lc [2] (.cmp .In (.b 2) (.b 0)) (.v 2) (.e (.v 1))))) (.cons (.ret (.k (.bool false))) .nil) .nil) (.cons (.ret (.pr .all (.lc [3, 4] (.cmp .Lt (.b 3) (.b 4)) (.p2 (.v 3) (.v 4)) (.zip (.v 1) (.sll (.b 1) (.k (.int (1)))))))) .nil)))
def f_is_selection : Fn := ⟨2, 5, false, false, b_is_selection⟩
def b_is_target : ISs := (.cons (.ret (.and (.call "is_list" (.cons (.v 1) .nil)) (.cmp .Eq (.pr .sorted (.b 1)) (.pr .sorted (.b 0))))) .nil)
def f_is_target : Fn := ⟨2, 2, false, false, b_is_target⟩
def b_is_word : ISs := (.cons (.ret (.and (.isi (.b 0) [.str]) (.and (.cmp2 .LtE .LtE (.k (.int (1))) (.pr .len (.b 0)) (.k (.int (12)))) (.pr .all (.lc [1] (.cmp .In (.b 1) (.k (.str ("abcdefghijklmnopqrstuvwxyz")))) (.v 1) (.e (.v 0))))))) .nil)
def f_is_word : Fn := ⟨1, 2, false, false, b_is_word⟩
def b_join : ISs := (.cons (.ret (.bin .Add (.b 1) (.pr .tuple (.lcf [2] (.v 2) (.v 2) (.e (.v 0)) (.cmp .NotIn (.b 2) (.b 1)))))) .nil)
def f_join : Fn := ⟨2, 3, false, false, b_join⟩
def b_label_of_L1 : ISs := (.cons (.asg 2 (.bin .Add (.bin .Mult (.k (.int (2))) (.b 2)) (.ite (.cmp .In (.b 0) (.b 3)) (.k (.int (0))) (.k (.int (1)))))) .nil)
def b_label_of : ISs := (.cons (.asg 2 (.k (.int (0)))) (.cons (.for_ (.v 3) (.e (.rev (.b 1))) b_label_of_L1) (.cons (.ret (.v 2)) .nil)))
def f_label_of : Fn := ⟨2, 4, false, false, b_label_of⟩
def b_labels : ISs := (.cons (.ex (.call "check_list" (.cons (.v 0) .nil))) (.cons (.ex (.call "check_moves" (.cons (.v 0) (.cons (.v 1) .nil)))) (.cons (.ret (.pr .tuple (.lc [2] (.call "label_of" (.cons (.v 2) (.cons (.v 1) .nil))) (.v 2) (.e (.v 0))))) .nil)))
def f_labels : Fn := ⟨2, 3, false, false, b_labels⟩
def b_least_both : ISs := (.cons (.ex (.call "check_double" (.cons (.v 0) (.cons (.v 1) (.cons (.v 2) (.cons (.v 3) .nil)))))) (.cons (.asg 4 (.call "best_both" (.cons (.v 0) (.cons (.v 1) (.cons (.v 2) (.cons (.v 3) .nil)))))) (.cons (.ret (.ite (.isN (.b 4)) (.k .none) (.ix (.b 4) (.k (.int (0)))))) .nil)))
def f_least_both : Fn := ⟨4, 5, false, false, b_least_both⟩
def b_least_cost : ISs := (.cons (.ex (.call "check_all" (.cons (.v 0) (.cons (.v 1) (.cons (.v 2) .nil))))) (.cons (.ex (.call "check_number" (.cons (.v 3) .nil))) (.cons (.ret (.call "cost_for" (.cons (.v 0) (.cons (.v 1) (.cons (.v 2) (.cons (.v 3) .nil)))))) .nil)))
def f_least_cost : Fn := ⟨4, 4, false, false, b_least_cost⟩
def b_least_cost_for_top : ISs := (.cons (.ex (.call "check_list" (.cons (.v 0) .nil))) (.cons (.ex (.call "check_top" (.cons (.v 0) (.cons (.v 1) .nil)))) (.cons (.ex (.call "check_weights" (.cons (.v 0) (.cons (.v 2) .nil)))) (.cons (.ex (.call "check_number" (.cons (.v 3) .nil))) (.cons (.ret (.call "cost_for" (.cons (.v 0) (.cons (.call "join" (.cons (.v 0) (.cons (.v 1) .nil))) (.cons (.v 2) (.cons (.v 3) .nil)))))) .nil)))))
def f_least_cost_for_top : Fn := ⟨4, 4, false, false, b_least_cost_for_top⟩
def b_least_number_L1 : ISs := (.cons (.if_ (.cmp .GtE (.call "sets_of" (.cons (.v 4) (.cons (.v 2) .nil))) (.b 3)) (.cons (.ret (.v 4)) .nil) .nil) .nil)
def b_least_number : ISs := (.cons (.asg 3 (.bin .Add (.pr .len (.callF "breaks_of" (.cons (.v 0) (.cons (.v 1) .nil)))) (.k (.int (1))))) (.cons (.for_ (.v 4) (.r1 (.v 3)) b_least_number_L1) (.cons (.ret (.k .none)) .nil)))
def f_least_number : Fn := ⟨3, 5, false, false, b_least_number⟩
def b_longer_rows_L1 : ISs := (.cons (.if_ (.and (.cmp .Eq (.ix (.b 0) (.b 9)) (.b 1)) (.cmp .Eq (.bin .Mod (.bin .FloorDiv (.b 4) (.call "power" (.cons (.v 9) .nil))) (.k (.int (2)))) (.k (.int (0))))) (.cons (.asg2 10 11 (.tup (.cons (.bin .Add (.b 4) (.call "power" (.cons (.v 9) .nil))) (.cons (.v 9) .nil))) (.bin .Add (.b 6) (.ite (.cmp .Lt (.b 9) (.b 5)) (.k (.int (1))) (.k (.int (0)))))) (.cons (.if_ (.or (.cmp .NotIn (.b 10) (.b 3)) (.cmp .Lt (.b 11) (.ix (.ix (.b 3) (.b 10)) (.k (.int (0)))))) (.cons (.setI 3 (.v 10) (.tup (.cons (.v 11) (.cons (.v 7) (.cons (.bin .Add (.b 8) (.tup (.cons (.v 9) .nil))) .nil))))) .nil) (.cons (.if_ (.cmp .Eq (.b 11) (.ix (.ix (.b 3) (.b 10)) (.k (.int (0))))) (.cons (.setI 3 (.v 10) (.tup (.cons (.v 11) (.cons (.bin .Add (.ix (.ix (.b 3) (.b 10)) (.k (.int (1)))) (.b 7)) (.cons (.ix (.ix (.b 3) (.b 10)) (.k (.int (2)))) .nil))))) .nil) .nil) .nil)) .nil)) .nil) .nil)
def b_longer_rows_L2 : ISs := (.cons (.asgT (.p3 (.v 6) (.v 7) (.v 8)) (.ix (.b 2) (.tup (.cons (.v 4) (.cons (.v 5) .nil))))) (.cons (.for_ (.v 9) (.r1 (.pr .len (.b 0))) b_longer_rows_L1) .nil))
def b_longer_rows : ISs := (.cons (.asg 3 .dnew) (.cons (.for_ (.p2 (.v 4) (.v 5)) (.e (.v 2)) b_longer_rows_L2) (.cons (.ret (.v 3)) .nil)))
def f_longer_rows : Fn := ⟨3, 12, false, false, b_longer_rows⟩
def b_moved : ISs := (.cons (.asg 2 (.lcf [3] (.v 3) (.v 3) (.e (.v 0)) (.cmp .In (.b 3) (.b 1)))) (.cons (.ret (.pr .tuple (.bin .Add (.b 2) (.lcf [3] (.v 3) (.v 3) (.e (.v 0)) (.cmp .NotIn (.b 3) (.b 1)))))) .nil))
def f_moved : Fn := ⟨2, 4, false, false, b_moved⟩
def b_moves_for_L1 : ISs := (.cons (.aug 1 .Add (.k (.int (1)))) .nil)
def b_moves_for : ISs := (.cons (.asg 1 (.k (.int (0)))) (.cons (.while_ (.cmp .Lt (.call "power" (.cons (.v 1) .nil)) (.bin .Add (.b 0) (.k (.int (1))))) b_moves_for_L1) (.cons (.ret (.v 1)) .nil)))
def f_moves_for : Fn := ⟨1, 2, false, false, b_moves_for⟩
def b_moves_from : ISs := (.cons (.ex (.call "check_list" (.cons (.v 0) .nil))) (.cons (.ex (.call "check_number" (.cons (.v 1) .nil))) (.cons (.asg 3 (.and (.isi (.b 2) [.tuple]) (.cmp .Eq (.pr .len (.b 2)) (.pr .len (.b 0))))) (.cons (.if_ (.or (.not (.v 3)) (.not (.pr .all (.lc [4] (.call "is_between" (.cons (.v 4) (.cons (.k (.int (0))) (.cons (.bin .Sub (.call "power" (.cons (.v 1) .nil)) (.k (.int (1)))) .nil)))) (.v 4) (.e (.v 2)))))) (.cons (.raise "E") .nil) .nil) (.cons (.ret (.call "decode" (.cons (.v 0) (.cons (.v 1) (.cons (.v 2) .nil))))) .nil)))))
def f_moves_from : Fn := ⟨3, 5, false, false, b_moves_from⟩
def b_moves_to_mix_L1 : ISs := (.cons (.aug 2 .Add (.k (.int (1)))) .nil)
def b_moves_to_mix : ISs := (.cons (.ex (.call "check_size" (.cons (.v 0) .nil))) (.cons (.if_ (.not (.call "is_between" (.cons (.v 1) (.cons (.k (.int (1))) (.cons (.k (.int (1000))) .nil))))) (.cons (.raise "E") .nil) .nil) (.cons (.asg 2 (.k (.int (0)))) (.cons (.while_ (.cmp .Gt (.bin .Mult (.ix (.call "far" (.cons (.v 0) (.cons (.v 2) .nil))) (.k (.int (0)))) (.b 1)) (.ix (.call "far" (.cons (.v 0) (.cons (.v 2) .nil))) (.k (.int (1))))) b_moves_to_mix_L1) (.cons (.ret (.v 2)) .nil)))))
def f_moves_to_mix : Fn := ⟨2, 3, false, false, b_moves_to_mix⟩
def b_next_table_L1 : ISs := (.cons (.asg2 7 8 (.get1 (.b 1) (.tup (.cons (.v 4) (.cons (.v 6) .nil)))) (.get1 (.b 1) (.tup (.cons (.v 6) (.cons (.v 5) .nil))))) (.cons (.if_ (.and (.notN (.b 7)) (.notN (.b 8))) (.cons (.asg 9 (.ite (.cmp .Eq (.b 2) (.k (.str ("top")))) (.bin .Sub (.ix (.b 0) (.b 6)) (.ix (.b 0) (.b 4))) (.bin .Sub (.ix (.b 0) (.b 5)) (.ix (.b 0) (.b 6))))) (.cons (.asg 10 (.tup (.cons (.bin .Add (.bin .Add (.b 9) (.ix (.b 7) (.k (.int (0))))) (.ix (.b 8) (.k (.int (0))))) (.cons (.tup (.cons (.v 6) (.cons (.ix (.b 7) (.k (.int (1)))) (.cons (.ix (.b 8) (.k (.int (1)))) .nil)))) .nil)))) (.cons (.if_ (.or (.cmp .NotIn (.tup (.cons (.v 4) (.cons (.v 5) .nil))) (.b 3)) (.cmp .Lt (.ix (.b 10) (.k (.int (0)))) (.ix (.ix (.b 3) (.tup (.cons (.v 4) (.cons (.v 5) .nil)))) (.k (.int (0)))))) (.cons (.setI 3 (.tup (.cons (.v 4) (.cons (.v 5) .nil))) (.v 10)) .nil) .nil) .nil))) .nil) .nil))
def b_next_table_L2 : ISs := (.cons (.for_ (.v 6) (.r2 (.v 4) (.bin .Add (.b 5) (.k (.int (1))))) b_next_table_L1) .nil)
def b_next_table : ISs := (.cons (.asg 3 .dnew) (.cons (.for_ (.p2 (.v 4) (.v 5)) (.e (.call "all_parts" (.cons (.bin .Sub (.pr .len (.b 0)) (.k (.int (1)))) .nil))) b_next_table_L2) (.cons (.ret (.v 3)) .nil)))
def f_next_table : Fn := ⟨3, 11, false, false, b_next_table⟩
def b_period : ISs := (.cons (.ex (.call "check_size" (.cons (.v 0) .nil))) (.cons (.ex (.call "check_positions" (.cons (.v 0) (.cons (.v 1) .nil)))) (.cons (.ret (.call "period_of" (.cons (.v 0) (.cons (.v 1) .nil)))) .nil)))
def f_period : Fn := ⟨2, 2, false, false, b_period⟩
def b_period_of_L1 : ISs := (.cons (.asg 3 (.call "step" (.cons (.v 3) (.cons (.v 1) .nil)))) (.cons (.aug 4 .Add (.k (.int (1)))) .nil))
def b_period_of : ISs := (.cons (.asg 2 (.trg (.v 0))) (.cons (.asg2 3 4 (.call "step" (.cons (.v 2) (.cons (.v 1) .nil))) (.k (.int (1)))) (.cons (.while_ (.cmp .NotEq (.b 3) (.b 2)) b_period_of_L1) (.cons (.ret (.v 4)) .nil))))
def f_period_of : Fn := ⟨2, 5, false, false, b_period_of⟩
def b_plan_at_L1 : ISs := (.cons (.asg 13 (.bin .FloorDiv (.bin .Add (.bin .Add (.b 11) (.b 12)) (.k (.int (1)))) (.k (.int (2))))) (.cons (.if_ (.cmp .LtE (.call "choose" (.cons (.v 13) (.cons (.bin .Sub (.b 5) (.b 9)) .nil))) (.b 6)) (.cons (.asg 11 (.v 13)) .nil) (.cons (.asg 12 (.bin .Sub (.b 13) (.k (.int (1))))) .nil)) .nil))
def b_plan_at_L2 : ISs := (.cons (.asg2 11 12 (.k (.int (0))) (.v 7)) (.cons (.while_ (.cmp .Lt (.b 11) (.b 12)) b_plan_at_L1) (.cons (.aug 6 .Sub (.call "choose" (.cons (.v 11) (.cons (.bin .Sub (.b 5) (.b 9)) .nil)))) (.cons (.setI 8 (.ix (.b 1) (.b 9)) (.bin .Sub (.bin .Sub (.bin .Sub (.b 7) (.k (.int (1)))) (.b 11)) (.b 10))) .nil))))
def b_plan_at : ISs := (.cons (.ex (.call "check_list" (.cons (.v 0) .nil))) (.cons (.ex (.call "check_target" (.cons (.v 0) (.cons (.v 1) .nil)))) (.cons (.ex (.call "check_number" (.cons (.v 2) .nil))) (.cons (.asg 4 (.call "count_of" (.cons (.v 0) (.cons (.v 1) (.cons (.v 2) .nil))))) (.cons (.if_ (.not (.call "is_between" (.cons (.v 3) (.cons (.k (.int (0))) (.cons (.bin .Sub (.b 4) (.k (.int (1)))) .nil))))) (.cons (.raise "E") .nil) .nil) (.cons (.asg2 5 6 (.pr .len (.b 0)) (.bin .Sub (.bin .Sub (.b 4) (.k (.int (1)))) (.b 3))) (.cons (.asg 7 (.bin .Add (.bin .Sub (.bin .Sub (.call "power" (.cons (.v 2) .nil)) (.pr .len (.callF "breaks_of" (.cons (.v 0) (.cons (.v 1) .nil))))) (.k (.int (1)))) (.b 5))) (.cons (.asg 8 .dnew) (.cons (.for_ (.p2 (.v 9) (.v 10)) (.enum (.call "shifts_of" (.cons (.v 0) (.cons (.v 1) .nil)))) b_plan_at_L2) (.cons (.ret (.call "decode" (.cons (.v 0) (.cons (.v 2) (.cons (.lc [14] (.ix (.b 8) (.b 14)) (.v 14) (.e (.v 0))) .nil))))) .nil))))))))))
def f_plan_at : Fn := ⟨4, 15, false, false, b_plan_at⟩
def b_plan_count : ISs := (.cons (.ex (.call "check_list" (.cons (.v 0) .nil))) (.cons (.ex (.call "check_target" (.cons (.v 0) (.cons (.v 1) .nil)))) (.cons (.ex (.call "check_number" (.cons (.v 2) .nil))) (.cons (.ret (.call "count_of" (.cons (.v 0) (.cons (.v 1) (.cons (.v 2) .nil))))) .nil))))
def f_plan_count : Fn := ⟨3, 3, false, false, b_plan_count⟩
def b_plan_number_L1 : ISs := (.cons (.aug 5 .Sub (.call "choose" (.cons (.bin .Sub (.bin .Sub (.bin .Sub (.b 4) (.k (.int (1)))) (.call "label_of" (.cons (.ix (.b 1) (.b 6)) (.cons (.v 2) .nil)))) (.b 7)) (.cons (.bin .Sub (.b 3) (.b 6)) .nil)))) .nil)
def b_plan_number : ISs := (.cons (.ex (.call "check_list" (.cons (.v 0) .nil))) (.cons (.ex (.call "check_target" (.cons (.v 0) (.cons (.v 1) .nil)))) (.cons (.ex (.call "check_moves" (.cons (.v 0) (.cons (.v 2) .nil)))) (.cons (.if_ (.cmp .NotEq (.call "after" (.cons (.v 0) (.cons (.v 2) .nil))) (.b 1)) (.cons (.ret (.k .none)) .nil) .nil) (.cons (.asg 3 (.pr .len (.b 0))) (.cons (.asg 4 (.bin .Add (.bin .Sub (.bin .Sub (.call "power" (.cons (.pr .len (.b 2)) .nil)) (.pr .len (.callF "breaks_of" (.cons (.v 0) (.cons (.v 1) .nil))))) (.k (.int (1)))) (.b 3))) (.cons (.asg 5 (.bin .Sub (.call "count_of" (.cons (.v 0) (.cons (.v 1) (.cons (.pr .len (.b 2)) .nil)))) (.k (.int (1))))) (.cons (.for_ (.p2 (.v 6) (.v 7)) (.enum (.call "shifts_of" (.cons (.v 0) (.cons (.v 1) .nil)))) b_plan_number_L1) (.cons (.ret (.v 5)) .nil)))))))))
def f_plan_number : Fn := ⟨3, 8, false, false, b_plan_number⟩
def b_power_L1 : ISs := (.cons (.aug 1 .Mult (.k (.int (2)))) .nil)
def b_power : ISs := (.cons (.asg 1 (.k (.int (1)))) (.cons (.for_ (.v 2) (.r1 (.v 0)) b_power_L1) (.cons (.ret (.v 1)) .nil)))
def f_power : Fn := ⟨1, 3, false, false, b_power⟩
def b_reduced_L1 : ISs := (.cons (.asg2 2 3 (.v 3) (.bin .Mod (.b 2) (.b 3))) .nil)
def b_reduced : ISs := (.cons (.asg2 2 3 (.v 0) (.v 1)) (.cons (.while_ (.cmp .Gt (.b 3) (.k (.int (0)))) b_reduced_L1) (.cons (.ret (.tup (.cons (.bin .FloorDiv (.b 0) (.b 2)) (.cons (.bin .FloorDiv (.b 1) (.b 2)) .nil)))) .nil)))
def f_reduced : Fn := ⟨2, 4, false, false, b_reduced⟩
def b_repeat_positions_L1 : ISs := (.cons (.asg 0 (.call "step" (.cons (.v 0) (.cons (.v 1) .nil)))) .nil)
def b_repeat_positions : ISs := (.cons (.ex (.call "check_list" (.cons (.v 0) .nil))) (.cons (.ex (.call "check_positions" (.cons (.pr .len (.b 0)) (.cons (.v 1) .nil)))) (.cons (.if_ (.not (.call "is_between" (.cons (.v 2) (.cons (.k (.int (0))) (.cons (.k (.int (1000000000000000))) .nil))))) (.cons (.raise "E") .nil) .nil) (.cons (.for_ (.v 3) (.r1 (.bin .Mod (.b 2) (.call "period_of" (.cons (.pr .len (.b 0)) (.cons (.v 1) .nil))))) b_repeat_positions_L1) (.cons (.ret (.v 0)) .nil)))))
def f_repeat_positions : Fn := ⟨3, 4, false, false, b_repeat_positions⟩
def b_rest_of : ISs := (.cons (.ret (.pr .tuple (.pr .sorted (.lcf [2] (.v 2) (.v 2) (.e (.v 0)) (.cmp .NotIn (.b 2) (.b 1)))))) .nil)
def f_rest_of : Fn := ⟨2, 3, false, false, b_rest_of⟩
def b_sets_of : ISs := (.cons (.ret (.pr .sum (.lc [2] (.call "choose" (.cons (.v 0) (.cons (.v 2) .nil))) (.v 2) (.r1 (.bin .Add (.b 1) (.k (.int (1)))))))) .nil)
def f_sets_of : Fn := ⟨2, 3, false, false, b_sets_of⟩
def b_shifts_of : ISs := (.cons (.asg 2 (.callF "breaks_of" (.cons (.v 0) (.cons (.v 1) .nil)))) (.cons (.ret (.lc [4] (.bin .Sub (.b 4) (.pr .len (.lcf [3] (.v 3) (.v 3) (.e (.v 2)) (.cmp .LtE (.b 3) (.b 4))))) (.v 4) (.r1 (.pr .len (.b 1))))) .nil))
def f_shifts_of : Fn := ⟨2, 5, false, false, b_shifts_of⟩
def b_spread_L1 : ISs := (.cons (.setI 4 (.index (.v 0) (.v 6)) (.ix (.b 2) (.pr .len (.lcf [7] (.v 7) (.v 7) (.e (.v 3)) (.cmp .LtE (.b 7) (.b 5)))))) .nil)
def b_spread : ISs := (.cons (.asg2 3 4 (.callF "breaks_of" (.cons (.v 0) (.cons (.v 1) .nil))) (.bin .Mult (.lst (.cons (.k (.int (0))) .nil)) (.pr .len (.b 0)))) (.cons (.for_ (.p2 (.v 5) (.v 6)) (.enum (.v 1)) b_spread_L1) (.cons (.ret (.v 4)) .nil)))
def f_spread : Fn := ⟨3, 8, false, false, b_spread⟩
def b_start_table_L1 : ISs := (.cons (.if_ (.cmp .Eq (.lcf [6] (.v 6) (.v 6) (.e (.v 2)) (.cmp2 .Lt .Lt (.v 4) (.v 6) (.v 5))) (.lst .nil)) (.cons (.setI 3 (.tup (.cons (.v 4) (.cons (.v 5) .nil))) (.tup (.cons (.k (.int (0))) (.cons (.tup .nil) .nil)))) .nil) .nil) .nil)
def b_start_table : ISs := (.cons (.asg2 2 3 (.callF "breaks_of" (.cons (.v 0) (.cons (.v 1) .nil))) .dnew) (.cons (.for_ (.p2 (.v 4) (.v 5)) (.e (.call "all_parts" (.cons (.pr .len (.b 1)) .nil))) b_start_table_L1) (.cons (.ret (.v 3)) .nil)))
def f_start_table : Fn := ⟨2, 7, false, false, b_start_table⟩
def b_step : ISs := (.cons (.asg 2 (.lc [3] (.ix (.b 0) (.b 3)) (.v 3) (.e (.v 1)))) (.cons (.ret (.pr .tuple (.bin .Add (.b 2) (.lcf [3, 4] (.v 4) (.p2 (.v 3) (.v 4)) (.enum (.v 0)) (.cmp .NotIn (.b 3) (.b 1)))))) .nil))
def f_step : Fn := ⟨2, 5, false, false, b_step⟩
def b_tables_for_L1 : ISs := (.cons (.app 5 (.bin .Add (.ix (.b 5) (.neg (.k (.int (1))))) (.ix (.b 2) (.index (.v 0) (.v 6))))) .nil)
def b_tables_for_L2 : ISs := (.cons (.if_ (.cmp .Eq (.lcf [11] (.v 11) (.v 11) (.e (.v 4)) (.cmp2 .Lt .Lt (.v 9) (.v 11) (.v 10))) (.lst .nil)) (.cons (.setI 8 (.tup (.cons (.v 9) (.cons (.v 10) .nil))) (.tup (.cons (.k (.int (0))) (.cons (.v 10) .nil)))) .nil) .nil) .nil)
def b_tables_for_L3 : ISs := (.cons (.if_ (.and (.cmp .In (.tup (.cons (.v 9) (.cons (.v 16) .nil))) (.b 14)) (.cmp .In (.tup (.cons (.v 16) (.cons (.v 10) .nil))) (.b 14))) (.cons (.asg 17 (.bin .Add (.bin .Add (.bin .Sub (.ix (.b 5) (.b 16)) (.ix (.b 5) (.b 9))) (.ix (.ix (.b 14) (.tup (.cons (.v 9) (.cons (.v 16) .nil)))) (.k (.int (0))))) (.ix (.ix (.b 14) (.tup (.cons (.v 16) (.cons (.v 10) .nil)))) (.k (.int (0)))))) (.cons (.app 15 (.tup (.cons (.v 17) (.cons (.v 16) .nil)))) .nil)) .nil) .nil)
def b_tables_for_L4 : ISs := (.cons (.asg 15 (.lst .nil)) (.cons (.for_ (.v 16) (.r2 (.v 9) (.bin .Add (.b 10) (.k (.int (1))))) b_tables_for_L3) (.cons (.if_ (.cmp .NotEq (.b 15) (.lst .nil)) (.cons (.setI 8 (.tup (.cons (.v 9) (.cons (.v 10) .nil))) (.pr .min (.b 15))) .nil) .nil) .nil)))
def b_tables_for_L5 : ISs := (.cons (.asg2 14 8 (.ix (.b 12) (.neg (.k (.int (1))))) .dnew) (.cons (.for_ (.p2 (.v 9) (.v 10)) (.e (.v 7)) b_tables_for_L4) (.cons (.app 12 (.v 8)) .nil)))
def b_tables_for : ISs := (.cons (.asg 4 (.callF "breaks_of" (.cons (.v 0) (.cons (.v 1) .nil)))) (.cons (.asg 5 (.lst (.cons (.k (.int (0))) .nil))) (.cons (.for_ (.v 6) (.e (.v 1)) b_tables_for_L1) (.cons (.asg 7 (.call "all_parts" (.cons (.pr .len (.b 1)) .nil))) (.cons (.asg 8 .dnew) (.cons (.for_ (.p2 (.v 9) (.v 10)) (.e (.v 7)) b_tables_for_L2) (.cons (.asg 12 (.lst (.cons (.v 8) .nil))) (.cons (.for_ (.v 13) (.r1 (.v 3)) b_tables_for_L5) (.cons (.ret (.v 12)) .nil)))))))))
def f_tables_for : Fn := ⟨4, 18, false, false, b_tables_for⟩
def b_total_count_L1 : ISs := (.cons (.asg 5 (.lc [6] (.call "count_of" (.cons (.v 3) (.cons (.v 4) (.cons (.v 6) .nil)))) (.v 6) (.r1 (.bin .Add (.b 1) (.k (.int (1))))))) (.cons (.asg 2 (.lc [6] (.pr .sum (.lc [7] (.bin .Mult (.ix (.b 2) (.b 7)) (.ix (.b 5) (.bin .Sub (.b 6) (.b 7)))) (.v 7) (.r1 (.bin .Add (.b 6) (.k (.int (1))))))) (.v 6) (.r1 (.bin .Add (.b 1) (.k (.int (1))))))) .nil))
def b_total_count : ISs := (.cons (.ex (.call "check_sightings" (.cons (.v 0) .nil))) (.cons (.ex (.call "check_number" (.cons (.v 1) .nil))) (.cons (.asg 2 (.bin .Add (.lst (.cons (.k (.int (1))) .nil)) (.bin .Mult (.lst (.cons (.k (.int (0))) .nil)) (.b 1)))) (.cons (.for_ (.p2 (.v 3) (.v 4)) (.zip (.v 0) (.sll (.b 0) (.k (.int (1))))) b_total_count_L1) (.cons (.ret (.ix (.b 2) (.b 1))) .nil)))))
def f_total_count : Fn := ⟨2, 8, false, false, b_total_count⟩
def b_touches : ISs := (.cons (.ex (.call "check_list" (.cons (.v 0) .nil))) (.cons (.ex (.call "check_moves" (.cons (.v 0) (.cons (.v 1) .nil)))) (.cons (.ret (.pr .tuple (.lc [3] (.pr .len (.lcf [2] (.v 2) (.v 2) (.e (.v 1)) (.cmp .In (.b 3) (.b 2)))) (.v 3) (.e (.v 0))))) .nil)))
def f_touches : Fn := ⟨2, 4, false, false, b_touches⟩
def b_touching_plan : ISs := (.cons (.ex (.call "check_most" (.cons (.v 0) (.cons (.v 1) (.cons (.v 2) .nil))))) (.cons (.asg 3 (.call "least_number" (.cons (.v 0) (.cons (.v 1) (.cons (.v 2) .nil))))) (.cons (.if_ (.isN (.b 3)) (.cons (.ret (.k .none)) .nil) .nil) (.cons (.asg 4 (.lcf [5] (.v 5) (.v 5) (.r1 (.call "power" (.cons (.v 3) .nil))) (.cmp .LtE (.call "zeros_of" (.cons (.v 5) (.cons (.v 3) .nil))) (.b 2)))) (.cons (.ret (.call "decode" (.cons (.v 0) (.cons (.v 3) (.cons (.call "spread" (.cons (.v 0) (.cons (.v 1) (.cons (.v 4) .nil)))) .nil))))) .nil)))))
def f_touching_plan : Fn := ⟨3, 6, false, false, b_touching_plan⟩
def b_trade_off : ISs := (.cons (.ex (.call "check_all" (.cons (.v 0) (.cons (.v 1) (.cons (.v 2) .nil))))) (.cons (.asg 3 (.pr .len (.callF "breaks_of" (.cons (.v 0) (.cons (.v 1) .nil))))) (.cons (.asg 4 (.call "moves_for" (.cons (.v 3) .nil))) (.cons (.retF (.lc [5] (.call "cost_for" (.cons (.v 0) (.cons (.v 1) (.cons (.v 2) (.cons (.v 5) .nil))))) (.v 5) (.r2 (.v 4) (.bin .Add (.max2 (.v 4) (.v 3)) (.k (.int (1))))))) .nil))))
def f_trade_off : Fn := ⟨3, 6, false, true, b_trade_off⟩
def b_with_top : ISs := (.cons (.ex (.call "check_list" (.cons (.v 0) .nil))) (.cons (.ex (.call "check_top" (.cons (.v 0) (.cons (.v 1) .nil)))) (.cons (.ret (.call "join" (.cons (.v 0) (.cons (.v 1) .nil)))) .nil)))
def f_with_top : Fn := ⟨2, 2, false, false, b_with_top⟩
def b_zeros_of : ISs := (.cons (.ret (.pr .len (.lcf [2] (.v 2) (.v 2) (.r1 (.v 1)) (.cmp .Eq (.bin .Mod (.bin .FloorDiv (.b 0) (.call "power" (.cons (.v 2) .nil))) (.k (.int (2)))) (.k (.int (0))))))) .nil)
def f_zeros_of : Fn := ⟨2, 3, false, false, b_zeros_of⟩
def TT : Tab := fun f =>
  if f = "_law_after" then some f_law_after
  else if f = "_law_all_moves" then some f_law_all_moves
  else if f = "_law_all_raise" then some f_law_all_raise
  else if f = "_law_along" then some f_law_along
  else if f = "_law_any_value" then some f_law_any_value
  else if f = "_law_both" then some f_law_both
  else if f = "_law_breaks" then some f_law_breaks
  else if f = "_law_call" then some f_law_call
  else if f = "_law_called" then some f_law_called
  else if f = "_law_choice" then some f_law_choice
  else if f = "_law_choices" then some f_law_choices
  else if f = "_law_corrupt" then some f_law_corrupt
  else if f = "_law_cost" then some f_law_cost
  else if f = "_law_costs" then some f_law_costs
  else if f = "_law_costs_agree" then some f_law_costs_agree
  else if f = "_law_counted" then some f_law_counted
  else if f = "_law_counts_agree" then some f_law_counts_agree
  else if f = "_law_divided" then some f_law_divided
  else if f = "_law_drawn" then some f_law_drawn
  else if f = "_law_equal" then some f_law_equal
  else if f = "_law_every" then some f_law_every
  else if f = "_law_fewest" then some f_law_fewest
  else if f = "_law_gap" then some f_law_gap
  else if f = "_law_gcd" then some f_law_gcd
  else if f = "_law_is_double" then some f_law_is_double
  else if f = "_law_is_int" then some f_law_is_int
  else if f = "_law_is_list" then some f_law_is_list
  else if f = "_law_is_moves" then some f_law_is_moves
  else if f = "_law_kind" then some f_law_kind
  else if f = "_law_label" then some f_law_label
  else if f = "_law_least" then some f_law_least
  else if f = "_law_list" then some f_law_list
  else if f = "_law_low" then some f_law_low
  else if f = "_law_mended" then some f_law_mended
  else if f = "_law_mixed" then some f_law_mixed
  else if f = "_law_moved" then some f_law_moved
  else if f = "_law_moves_named" then some f_law_moves_named
  else if f = "_law_named" then some f_law_named
  else if f = "_law_next" then some f_law_next
  else if f = "_law_no_less" then some f_law_no_less
  else if f = "_law_one_up_right" then some f_law_one_up_right
  else if f = "_law_orders" then some f_law_orders
  else if f = "_law_parts" then some f_law_parts
  else if f = "_law_reached" then some f_law_reached
  else if f = "_law_reversed_right" then some f_law_reversed_right
  else if f = "_law_selection" then some f_law_selection
  else if f = "_law_selections" then some f_law_selections
  else if f = "_law_sets" then some f_law_sets
  else if f = "_law_small" then some f_law_small
  else if f = "_law_some_moves" then some f_law_some_moves
  else if f = "_law_spread_out" then some f_law_spread_out
  else if f = "_law_step" then some f_law_step
  else if f = "_law_target" then some f_law_target
  else if f = "_law_two_to" then some f_law_two_to
  else if f = "_law_weights" then some f_law_weights
  else if f = "_law_word" then some f_law_word
  else if f = "_law_words_agree" then some f_law_words_agree
  else if f = "_law_words_right" then some f_law_words_right
  else if f = "_wall" then some f_wall
  else if f = "after" then some f_after
  else if f = "all_parts" then some f_all_parts
  else if f = "allowed" then some f_allowed
  else if f = "apply" then some f_apply
  else if f = "apply_both" then some f_apply_both
  else if f = "are_moves" then some f_are_moves
  else if f = "best_both" then some f_best_both
  else if f = "best_copies" then some f_best_copies
  else if f = "break_counts" then some f_break_counts
  else if f = "breaks" then some f_breaks
  else if f = "breaks_of" then some f_breaks_of
  else if f = "chance" then some f_chance
  else if f = "cheapest_both" then some f_cheapest_both
  else if f = "cheapest_plan" then some f_cheapest_plan
  else if f = "cheapest_within" then some f_cheapest_within
  else if f = "check_all" then some f_check_all
  else if f = "check_double" then some f_check_double
  else if f = "check_list" then some f_check_list
  else if f = "check_most" then some f_check_most
  else if f = "check_moves" then some f_check_moves
  else if f = "check_number" then some f_check_number
  else if f = "check_positions" then some f_check_positions
  else if f = "check_sightings" then some f_check_sightings
  else if f = "check_size" then some f_check_size
  else if f = "check_target" then some f_check_target
  else if f = "check_top" then some f_check_top
  else if f = "check_weights" then some f_check_weights
  else if f = "check_words" then some f_check_words
  else if f = "choose" then some f_choose
  else if f = "copy_list" then some f_copy_list
  else if f = "cost_for" then some f_cost_for
  else if f = "count_breaks" then some f_count_breaks
  else if f = "count_copy_lists" then some f_count_copy_lists
  else if f = "count_lists" then some f_count_lists
  else if f = "count_of" then some f_count_of
  else if f = "decode" then some f_decode
  else if f = "distance" then some f_distance
  else if f = "far" then some f_far
  else if f = "fewest_for_top" then some f_fewest_for_top
  else if f = "fewest_for_word" then some f_fewest_for_word
  else if f = "fewest_moves" then some f_fewest_moves
  else if f = "fewest_total" then some f_fewest_total
  else if f = "fewest_touching" then some f_fewest_touching
  else if f = "hidden_move" then some f_hidden_move
  else if f = "is_between" then some f_is_between
  else if f = "is_list" then some f_is_list
  else if f = "is_moves" then some f_is_moves
  else if f = "is_selection" then some f_is_selection
  else if f = "is_target" then some f_is_target
  else if f = "is_word" then some f_is_word
  else if f = "join" then some f_join
  else if f = "label_of" then some f_label_of
  else if f = "labels" then some f_labels
  else if f = "least_both" then some f_least_both
  else if f = "least_cost" then some f_least_cost
  else if f = "least_cost_for_top" then some f_least_cost_for_top
  else if f = "least_number" then some f_least_number
  else if f = "longer_rows" then some f_longer_rows
  else if f = "moved" then some f_moved
  else if f = "moves_for" then some f_moves_for
  else if f = "moves_from" then some f_moves_from
  else if f = "moves_to_mix" then some f_moves_to_mix
  else if f = "next_table" then some f_next_table
  else if f = "period" then some f_period
  else if f = "period_of" then some f_period_of
  else if f = "plan_at" then some f_plan_at
  else if f = "plan_count" then some f_plan_count
  else if f = "plan_number" then some f_plan_number
  else if f = "power" then some f_power
  else if f = "reduced" then some f_reduced
  else if f = "repeat_positions" then some f_repeat_positions
  else if f = "rest_of" then some f_rest_of
  else if f = "sets_of" then some f_sets_of
  else if f = "shifts_of" then some f_shifts_of
  else if f = "spread" then some f_spread
  else if f = "start_table" then some f_start_table
  else if f = "step" then some f_step
  else if f = "tables_for" then some f_tables_for
  else if f = "total_count" then some f_total_count
  else if f = "touches" then some f_touches
  else if f = "touching_plan" then some f_touching_plan
  else if f = "trade_off" then some f_trade_off
  else if f = "with_top" then some f_with_top
  else if f = "zeros_of" then some f_zeros_of
  else none
theorem tt_law_after : TT "_law_after" = some f_law_after := by kernel_rfl
theorem tt_law_all_moves : TT "_law_all_moves" = some f_law_all_moves := by kernel_rfl
theorem tt_law_all_raise : TT "_law_all_raise" = some f_law_all_raise := by kernel_rfl
theorem tt_law_along : TT "_law_along" = some f_law_along := by kernel_rfl
theorem tt_law_any_value : TT "_law_any_value" = some f_law_any_value := by kernel_rfl
theorem tt_law_both : TT "_law_both" = some f_law_both := by kernel_rfl
theorem tt_law_breaks : TT "_law_breaks" = some f_law_breaks := by kernel_rfl
theorem tt_law_call : TT "_law_call" = some f_law_call := by kernel_rfl
theorem tt_law_called : TT "_law_called" = some f_law_called := by kernel_rfl
theorem tt_law_choice : TT "_law_choice" = some f_law_choice := by kernel_rfl
theorem tt_law_choices : TT "_law_choices" = some f_law_choices := by kernel_rfl
theorem tt_law_corrupt : TT "_law_corrupt" = some f_law_corrupt := by kernel_rfl
theorem tt_law_cost : TT "_law_cost" = some f_law_cost := by kernel_rfl
theorem tt_law_costs : TT "_law_costs" = some f_law_costs := by kernel_rfl
theorem tt_law_costs_agree : TT "_law_costs_agree" = some f_law_costs_agree := by kernel_rfl
theorem tt_law_counted : TT "_law_counted" = some f_law_counted := by kernel_rfl
theorem tt_law_counts_agree : TT "_law_counts_agree" = some f_law_counts_agree := by kernel_rfl
theorem tt_law_divided : TT "_law_divided" = some f_law_divided := by kernel_rfl
theorem tt_law_drawn : TT "_law_drawn" = some f_law_drawn := by kernel_rfl
theorem tt_law_equal : TT "_law_equal" = some f_law_equal := by kernel_rfl
theorem tt_law_every : TT "_law_every" = some f_law_every := by kernel_rfl
theorem tt_law_fewest : TT "_law_fewest" = some f_law_fewest := by kernel_rfl
theorem tt_law_gap : TT "_law_gap" = some f_law_gap := by kernel_rfl
theorem tt_law_gcd : TT "_law_gcd" = some f_law_gcd := by kernel_rfl
theorem tt_law_is_double : TT "_law_is_double" = some f_law_is_double := by kernel_rfl
theorem tt_law_is_int : TT "_law_is_int" = some f_law_is_int := by kernel_rfl
theorem tt_law_is_list : TT "_law_is_list" = some f_law_is_list := by kernel_rfl
theorem tt_law_is_moves : TT "_law_is_moves" = some f_law_is_moves := by kernel_rfl
theorem tt_law_kind : TT "_law_kind" = some f_law_kind := by kernel_rfl
theorem tt_law_label : TT "_law_label" = some f_law_label := by kernel_rfl
theorem tt_law_least : TT "_law_least" = some f_law_least := by kernel_rfl
theorem tt_law_list : TT "_law_list" = some f_law_list := by kernel_rfl
theorem tt_law_low : TT "_law_low" = some f_law_low := by kernel_rfl
theorem tt_law_mended : TT "_law_mended" = some f_law_mended := by kernel_rfl
theorem tt_law_mixed : TT "_law_mixed" = some f_law_mixed := by kernel_rfl
theorem tt_law_moved : TT "_law_moved" = some f_law_moved := by kernel_rfl
theorem tt_law_moves_named : TT "_law_moves_named" = some f_law_moves_named := by kernel_rfl
theorem tt_law_named : TT "_law_named" = some f_law_named := by kernel_rfl
theorem tt_law_next : TT "_law_next" = some f_law_next := by kernel_rfl
theorem tt_law_no_less : TT "_law_no_less" = some f_law_no_less := by kernel_rfl
theorem tt_law_one_up_right : TT "_law_one_up_right" = some f_law_one_up_right := by kernel_rfl
theorem tt_law_orders : TT "_law_orders" = some f_law_orders := by kernel_rfl
theorem tt_law_parts : TT "_law_parts" = some f_law_parts := by kernel_rfl
theorem tt_law_reached : TT "_law_reached" = some f_law_reached := by kernel_rfl
theorem tt_law_reversed_right : TT "_law_reversed_right" = some f_law_reversed_right := by kernel_rfl
theorem tt_law_selection : TT "_law_selection" = some f_law_selection := by kernel_rfl
theorem tt_law_selections : TT "_law_selections" = some f_law_selections := by kernel_rfl
theorem tt_law_sets : TT "_law_sets" = some f_law_sets := by kernel_rfl
theorem tt_law_small : TT "_law_small" = some f_law_small := by kernel_rfl
theorem tt_law_some_moves : TT "_law_some_moves" = some f_law_some_moves := by kernel_rfl
theorem tt_law_spread_out : TT "_law_spread_out" = some f_law_spread_out := by kernel_rfl
theorem tt_law_step : TT "_law_step" = some f_law_step := by kernel_rfl
theorem tt_law_target : TT "_law_target" = some f_law_target := by kernel_rfl
theorem tt_law_two_to : TT "_law_two_to" = some f_law_two_to := by kernel_rfl
theorem tt_law_weights : TT "_law_weights" = some f_law_weights := by kernel_rfl
theorem tt_law_word : TT "_law_word" = some f_law_word := by kernel_rfl
theorem tt_law_words_agree : TT "_law_words_agree" = some f_law_words_agree := by kernel_rfl
theorem tt_law_words_right : TT "_law_words_right" = some f_law_words_right := by kernel_rfl
theorem tt_wall : TT "_wall" = some f_wall := by kernel_rfl
theorem tt_after : TT "after" = some f_after := by kernel_rfl
theorem tt_all_parts : TT "all_parts" = some f_all_parts := by kernel_rfl
theorem tt_allowed : TT "allowed" = some f_allowed := by kernel_rfl
theorem tt_apply : TT "apply" = some f_apply := by kernel_rfl
theorem tt_apply_both : TT "apply_both" = some f_apply_both := by kernel_rfl
theorem tt_are_moves : TT "are_moves" = some f_are_moves := by kernel_rfl
theorem tt_best_both : TT "best_both" = some f_best_both := by kernel_rfl
theorem tt_best_copies : TT "best_copies" = some f_best_copies := by kernel_rfl
theorem tt_break_counts : TT "break_counts" = some f_break_counts := by kernel_rfl
theorem tt_breaks : TT "breaks" = some f_breaks := by kernel_rfl
theorem tt_breaks_of : TT "breaks_of" = some f_breaks_of := by kernel_rfl
theorem tt_chance : TT "chance" = some f_chance := by kernel_rfl
theorem tt_cheapest_both : TT "cheapest_both" = some f_cheapest_both := by kernel_rfl
theorem tt_cheapest_plan : TT "cheapest_plan" = some f_cheapest_plan := by kernel_rfl
theorem tt_cheapest_within : TT "cheapest_within" = some f_cheapest_within := by kernel_rfl
theorem tt_check_all : TT "check_all" = some f_check_all := by kernel_rfl
theorem tt_check_double : TT "check_double" = some f_check_double := by kernel_rfl
theorem tt_check_list : TT "check_list" = some f_check_list := by kernel_rfl
theorem tt_check_most : TT "check_most" = some f_check_most := by kernel_rfl
theorem tt_check_moves : TT "check_moves" = some f_check_moves := by kernel_rfl
theorem tt_check_number : TT "check_number" = some f_check_number := by kernel_rfl
theorem tt_check_positions : TT "check_positions" = some f_check_positions := by kernel_rfl
theorem tt_check_sightings : TT "check_sightings" = some f_check_sightings := by kernel_rfl
theorem tt_check_size : TT "check_size" = some f_check_size := by kernel_rfl
theorem tt_check_target : TT "check_target" = some f_check_target := by kernel_rfl
theorem tt_check_top : TT "check_top" = some f_check_top := by kernel_rfl
theorem tt_check_weights : TT "check_weights" = some f_check_weights := by kernel_rfl
theorem tt_check_words : TT "check_words" = some f_check_words := by kernel_rfl
theorem tt_choose : TT "choose" = some f_choose := by kernel_rfl
theorem tt_copy_list : TT "copy_list" = some f_copy_list := by kernel_rfl
theorem tt_cost_for : TT "cost_for" = some f_cost_for := by kernel_rfl
theorem tt_count_breaks : TT "count_breaks" = some f_count_breaks := by kernel_rfl
theorem tt_count_copy_lists : TT "count_copy_lists" = some f_count_copy_lists := by kernel_rfl
theorem tt_count_lists : TT "count_lists" = some f_count_lists := by kernel_rfl
theorem tt_count_of : TT "count_of" = some f_count_of := by kernel_rfl
theorem tt_decode : TT "decode" = some f_decode := by kernel_rfl
theorem tt_distance : TT "distance" = some f_distance := by kernel_rfl
theorem tt_far : TT "far" = some f_far := by kernel_rfl
theorem tt_fewest_for_top : TT "fewest_for_top" = some f_fewest_for_top := by kernel_rfl
theorem tt_fewest_for_word : TT "fewest_for_word" = some f_fewest_for_word := by kernel_rfl
theorem tt_fewest_moves : TT "fewest_moves" = some f_fewest_moves := by kernel_rfl
theorem tt_fewest_total : TT "fewest_total" = some f_fewest_total := by kernel_rfl
theorem tt_fewest_touching : TT "fewest_touching" = some f_fewest_touching := by kernel_rfl
theorem tt_hidden_move : TT "hidden_move" = some f_hidden_move := by kernel_rfl
theorem tt_is_between : TT "is_between" = some f_is_between := by kernel_rfl
theorem tt_is_list : TT "is_list" = some f_is_list := by kernel_rfl
theorem tt_is_moves : TT "is_moves" = some f_is_moves := by kernel_rfl
theorem tt_is_selection : TT "is_selection" = some f_is_selection := by kernel_rfl
theorem tt_is_target : TT "is_target" = some f_is_target := by kernel_rfl
theorem tt_is_word : TT "is_word" = some f_is_word := by kernel_rfl
theorem tt_join : TT "join" = some f_join := by kernel_rfl
theorem tt_label_of : TT "label_of" = some f_label_of := by kernel_rfl
theorem tt_labels : TT "labels" = some f_labels := by kernel_rfl
theorem tt_least_both : TT "least_both" = some f_least_both := by kernel_rfl
theorem tt_least_cost : TT "least_cost" = some f_least_cost := by kernel_rfl
theorem tt_least_cost_for_top : TT "least_cost_for_top" = some f_least_cost_for_top := by kernel_rfl
theorem tt_least_number : TT "least_number" = some f_least_number := by kernel_rfl
theorem tt_longer_rows : TT "longer_rows" = some f_longer_rows := by kernel_rfl
theorem tt_moved : TT "moved" = some f_moved := by kernel_rfl
theorem tt_moves_for : TT "moves_for" = some f_moves_for := by kernel_rfl
theorem tt_moves_from : TT "moves_from" = some f_moves_from := by kernel_rfl
theorem tt_moves_to_mix : TT "moves_to_mix" = some f_moves_to_mix := by kernel_rfl
theorem tt_next_table : TT "next_table" = some f_next_table := by kernel_rfl
theorem tt_period : TT "period" = some f_period := by kernel_rfl
theorem tt_period_of : TT "period_of" = some f_period_of := by kernel_rfl
theorem tt_plan_at : TT "plan_at" = some f_plan_at := by kernel_rfl
theorem tt_plan_count : TT "plan_count" = some f_plan_count := by kernel_rfl
theorem tt_plan_number : TT "plan_number" = some f_plan_number := by kernel_rfl
theorem tt_power : TT "power" = some f_power := by kernel_rfl
theorem tt_reduced : TT "reduced" = some f_reduced := by kernel_rfl
theorem tt_repeat_positions : TT "repeat_positions" = some f_repeat_positions := by kernel_rfl
theorem tt_rest_of : TT "rest_of" = some f_rest_of := by kernel_rfl
theorem tt_sets_of : TT "sets_of" = some f_sets_of := by kernel_rfl
theorem tt_shifts_of : TT "shifts_of" = some f_shifts_of := by kernel_rfl
theorem tt_spread : TT "spread" = some f_spread := by kernel_rfl
theorem tt_start_table : TT "start_table" = some f_start_table := by kernel_rfl
theorem tt_step : TT "step" = some f_step := by kernel_rfl
theorem tt_tables_for : TT "tables_for" = some f_tables_for := by kernel_rfl
theorem tt_total_count : TT "total_count" = some f_total_count := by kernel_rfl
theorem tt_touches : TT "touches" = some f_touches := by kernel_rfl
theorem tt_touching_plan : TT "touching_plan" = some f_touching_plan := by kernel_rfl
theorem tt_trade_off : TT "trade_off" = some f_trade_off := by kernel_rfl
theorem tt_with_top : TT "with_top" = some f_with_top := by kernel_rfl
theorem tt_zeros_of : TT "zeros_of" = some f_zeros_of := by kernel_rfl
end BT
namespace BT
open PySem
/-! ## draws -/
def b_src1 : ISs := (.cons (.if_ (.cmp .GtE (.b 0) (.bin .Pow (.k (.int (10))) (.k (.int (18))))) (.cons (.retF (.lst (.cons (.bin .Sub (.b 0) (.bin .Pow (.k (.int (10))) (.k (.int (18))))) (.cons (.bin .Mod (.b 0) (.k (.int (2147483579)))) (.cons (.v 1) .nil))))) .nil) .nil) (.cons (.retF (.lst (.cons (.k (.int (0))) (.cons (.bin .Mod (.b 0) (.k (.int (2147483579)))) (.cons (.v 1) .nil))))) .nil))
def f_src1 : Fn := ⟨2, 2, false, true, b_src1⟩
def b_draw1 : ISs := (.cons (.if_ (.cmp .Gt (.ix (.b 0) (.k (.int (0)))) (.k (.int (1)))) (.cons (.asg 2 (.bin .Mod (.ix (.b 0) (.k (.int (0)))) (.b 1))) (.cons (.setI 0 (.k (.int (0))) (.bin .FloorDiv (.ix (.b 0) (.k (.int (0)))) (.b 1))) (.cons (.ret (.v 2)) .nil))) .nil) (.cons (.setI 0 (.k (.int (2))) (.bin .Add (.ix (.b 0) (.k (.int (2)))) (.k (.int (1))))) (.cons (.asg 3 (.bin .Mod (.bin .Pow (.bin .Add (.ix (.b 0) (.k (.int (1)))) (.bin .Mult (.k (.int (15485867))) (.ix (.b 0) (.k (.int (2)))))) (.k (.int (5)))) (.k (.int (2147483647))))) (.cons (.asg 2 (.bin .FloorDiv (.bin .Mod (.bin .Pow (.bin .Add (.b 3) (.bin .Mult (.k (.int (7919))) (.ix (.b 0) (.k (.int (2)))))) (.k (.int (3)))) (.k (.int (2147483629)))) (.k (.int (32))))) (.cons (.ret (.bin .Mod (.b 2) (.b 1))) .nil)))))
def f_draw1 : Fn := ⟨1, 4, true, false, b_draw1⟩
def b_src2 : ISs := (.cons (.if_ (.cmp .GtE (.b 0) (.bin .Pow (.k (.int (10))) (.k (.int (18))))) (.cons (.retF (.lst (.cons (.bin .Sub (.b 0) (.bin .Pow (.k (.int (10))) (.k (.int (18))))) (.cons (.bin .Mod (.pr .int (.b 0)) (.k (.int (2147483579)))) (.cons (.v 1) .nil))))) .nil) .nil) (.cons (.retF (.lst (.cons (.k (.int (0))) (.cons (.bin .Mod (.pr .int (.b 0)) (.k (.int (2147483579)))) (.cons (.v 1) .nil))))) .nil))
def f_src2 : Fn := ⟨2, 2, false, true, b_src2⟩
def b_draw2 : ISs := (.cons (.if_ (.cmp .Gt (.ix (.b 0) (.k (.int (0)))) (.k (.int (1)))) (.cons (.asg 2 (.bin .Mod (.pr .int (.ix (.b 0) (.k (.int (0))))) (.b 1))) (.cons (.setI 0 (.k (.int (0))) (.bin .FloorDiv (.ix (.b 0) (.k (.int (0)))) (.b 1))) (.cons (.ret (.v 2)) .nil))) .nil) (.cons (.setI 0 (.k (.int (2))) (.bin .Add (.ix (.b 0) (.k (.int (2)))) (.k (.int (1))))) (.cons (.asg 3 (.bin .Mod (.pr .int (.bin .Pow (.bin .Add (.ix (.b 0) (.k (.int (1)))) (.bin .Mult (.k (.int (15485867))) (.ix (.b 0) (.k (.int (2)))))) (.k (.int (5))))) (.k (.int (2147483647))))) (.cons (.asg 2 (.bin .FloorDiv (.bin .Mod (.pr .int (.bin .Pow (.bin .Add (.b 3) (.bin .Mult (.k (.int (7919))) (.ix (.b 0) (.k (.int (2)))))) (.k (.int (3))))) (.k (.int (2147483629)))) (.k (.int (32))))) (.cons (.ret (.bin .Mod (.pr .int (.b 2)) (.b 1))) .nil)))))
def f_draw2 : Fn := ⟨1, 4, true, false, b_draw2⟩
/-- the state of the draws: at most n made -/
def Src (n : Nat) (s : D) : Prop := ∃ x y z : Int, s = .list [.int x, .int y, .int z] ∧ 0 ≤ y ∧ y < 2147483648 ∧ 0 ≤ z ∧ z ≤ n
theorem Src.mono {n m : Nat} {s : D} (h : Src n s) (l : n ≤ m) : Src m s := by
  obtain ⟨x, y, z, e, a, b, c, d⟩ := h
  exact ⟨x, y, z, e, a, b, c, by omega⟩
def SourceOk (T : Tab) : Prop := ∀ (k : Nat) (cell turn : Int), 1 ≤ k → 0 ≤ turn → turn ≤ 1000 → wpC (callk T k) "_law_source" [.int cell, .int turn] .none fun d s => (∃ xs, d = .list xs) ∧ Src 1000 d
def DrawOk (T : Tab) : Prop := ∀ (k : Nat) (s : D) (n : Nat) (size : Int), 1 ≤ k → Src n s → dvOk size = true → n < 1000000000 → wpC (callk T k) "_law_draw" [.int size] s fun d s' => ∃ x : Int, d = .int x ∧ 0 ≤ x ∧ x < size ∧ Src (n + 1) s'
section
variable {T : Tab}
theorem source1_ok (hT : T "_law_source" = some f_src1) : SourceOk T := fun k cell turn hk h0 h1 => by
  have m1 : 0 ≤ cell % 2147483579 := Int.emod_nonneg _ (by decide)
  have m2 : cell % 2147483579 < 2147483579 := Int.emod_lt_of_pos _ (by decide)
  refine wC_runk hk hT rfl fun j _ => ?_
  by_cases h : (1000000000000000000 : Int) ≤ cell
  · simp [f_src1, b_src1, -List.map_map, -List.any_map, -List.all_map, h]
    exact ⟨_, _, _, rfl, m1, by omega, h0, h1⟩
  · simp [f_src1, b_src1, -List.map_map, -List.any_map, -List.all_map, h]
    exact ⟨_, _, _, rfl, m1, by omega, h0, h1⟩
theorem source2_ok (hT : T "_law_source" = some f_src2) : SourceOk T := fun k cell turn hk h0 h1 => by
  have m1 : 0 ≤ cell % 2147483579 := Int.emod_nonneg _ (by decide)
  have m2 : cell % 2147483579 < 2147483579 := Int.emod_lt_of_pos _ (by decide)
  refine wC_runk hk hT rfl fun j _ => ?_
  by_cases h : (1000000000000000000 : Int) ≤ cell
  · simp [f_src2, b_src2, -List.map_map, -List.any_map, -List.all_map, h]
    exact ⟨_, _, _, rfl, m1, by omega, h0, h1⟩
  · simp [f_src2, b_src2, -List.map_map, -List.any_map, -List.all_map, h]
    exact ⟨_, _, _, rfl, m1, by omega, h0, h1⟩
theorem dv_small {n : Int} (h0 : 0 < n) (h1 : n < 1073741824) : dvOk n = true := by
  unfold dvOk
  simp only [Bool.and_eq_true, Bool.or_eq_true, decide_eq_true_eq]
  exact ⟨h0, .inl h1⟩
theorem dv_pos {n : Int} (h : dvOk n = true) : 0 < n := by
  unfold dvOk at h
  simp only [Bool.and_eq_true, decide_eq_true_eq] at h
  exact h.1
theorem draw1_ok (hT : T "_law_draw" = some f_draw1) : DrawOk T := fun k s n size hk hs dv hn => by
  obtain ⟨x, y, z, rfl, hy0, hy1, hz0, hz1⟩ := hs
  have h0 := dv_pos dv
  refine wC_runk hk hT rfl fun j _ => ?_
  by_cases h : 1 < x
  · simp [f_draw1, b_draw1, -List.map_map, -List.any_map, -List.all_map, h, h0, dv]
    exact ⟨Int.emod_nonneg _ (by omega), Int.emod_lt_of_pos _ h0, _, _, _, rfl, hy0, hy1, hz0, by omega⟩
  · have m5 : 0 ≤ (y + 15485867 * (z + 1)) ^ 5 % 2147483647 := Int.emod_nonneg _ (by decide)
    have m6 : (y + 15485867 * (z + 1)) ^ 5 % 2147483647 < 2147483647 := Int.emod_lt_of_pos _ (by decide)
    have p1 : (y + 15485867 * (z + 1)).natAbs < 18446744073709551616 := by omega
    have p2 : ((y + 15485867 * (z + 1)) ^ 5 % 2147483647 + 7919 * (z + 1)).natAbs < 18446744073709551616 := by omega
    have mo1 : mulOk 15485867 (z + 1) = true := by unfold mulOk; simp
    have mo2 : mulOk 7919 (z + 1) = true := by unfold mulOk; simp
    have dv2 : dvOk 32 = true := by decide
    simp [f_draw1, b_draw1, -List.map_map, -List.any_map, -List.all_map, h, h0, dv, mo1, mo2, p1, p2, dv2]
    exact ⟨Int.emod_nonneg _ (by omega), Int.emod_lt_of_pos _ h0, _, _, _, rfl, hy0, hy1, by omega, by omega⟩
theorem draw2_ok (hT : T "_law_draw" = some f_draw2) : DrawOk T := fun k s n size hk hs dv hn => by
  obtain ⟨x, y, z, rfl, hy0, hy1, hz0, hz1⟩ := hs
  have h0 := dv_pos dv
  refine wC_runk hk hT rfl fun j _ => ?_
  by_cases h : 1 < x
  · simp [f_draw2, b_draw2, -List.map_map, -List.any_map, -List.all_map, h, h0, dv]
    exact ⟨Int.emod_nonneg _ (by omega), Int.emod_lt_of_pos _ h0, _, _, _, rfl, hy0, hy1, hz0, by omega⟩
  · have m5 : 0 ≤ (y + 15485867 * (z + 1)) ^ 5 % 2147483647 := Int.emod_nonneg _ (by decide)
    have m6 : (y + 15485867 * (z + 1)) ^ 5 % 2147483647 < 2147483647 := Int.emod_lt_of_pos _ (by decide)
    have p1 : (y + 15485867 * (z + 1)).natAbs < 18446744073709551616 := by omega
    have p2 : ((y + 15485867 * (z + 1)) ^ 5 % 2147483647 + 7919 * (z + 1)).natAbs < 18446744073709551616 := by omega
    have mo1 : mulOk 15485867 (z + 1) = true := by unfold mulOk; simp
    have mo2 : mulOk 7919 (z + 1) = true := by unfold mulOk; simp
    have dv2 : dvOk 32 = true := by decide
    simp [f_draw2, b_draw2, -List.map_map, -List.any_map, -List.all_map, h, h0, dv, mo1, mo2, p1, p2, dv2]
    exact ⟨Int.emod_nonneg _ (by omega), Int.emod_lt_of_pos _ h0, _, _, _, rfl, hy0, hy1, by omega, by omega⟩
end
/-- a table with the shared defs, and draws -/
structure Base (T : Tab) : Prop where
  ext : ∀ f fn, TT f = some fn → T f = some fn
  src : SourceOk T
  draw : DrawOk T
section
variable {T : Tab} {k n : Nat} {s : D}
theorem choice_wp (B : Base T) (hk : 2 ≤ k) (hs : Src n s) {c : D} {xs : List D} (hc : c = .list xs ∨ c = .tuple xs) (h0 : xs ≠ []) (h1 : xs.length < 1000000000) (hn : n < 1000000000) :
    wpC (callk T k) "_law_choice" [c] s fun d s' => d ∈ xs ∧ Src (n + 1) s' := by
  have hp : 0 < xs.length := List.length_pos_iff.mpr h0
  refine wC_runk (by omega) (B.ext _ _ tt_law_choice) rfl fun j hj => ?_
  have D := B.draw j s n (xs.length : Int) (by omega) hs (dv_small (by omega) (by omega)) hn
  rcases hc with rfl | rfl
  all_goals
    simp [f_law_choice, b_law_choice, -List.map_map, -List.any_map, -List.all_map]
    refine wC_of D fun d s' ⟨x, e, x0, x1, hs'⟩ => ?_
    have hlt : x.toNat < xs.length := by omega
    subst e
    simp [-List.map_map, -List.any_map, -List.all_map, x0, x1, List.getElem?_eq_getElem hlt, hs']
end
end BT
namespace BT
open PySem
/-! ## plain data -/
def GoodL (vs : List Int) : Prop := 1 ≤ vs.length ∧ vs.length ≤ 12 ∧ (∀ v ∈ vs, 0 ≤ v ∧ v ≤ 99) ∧ vs.Nodup
theorem dd_self : ∀ {ns : List Int}, ns.Nodup → dd ns = ns
  | [], _ => rfl
  | x :: xs, h => by
    have h' := List.nodup_cons.mp h
    unfold dd
    rw [if_neg h'.1, dd_self h'.2]
theorem plain_ints : ∀ vs : List Int, PyData.plainAll (vs.map PyData.int) = true
  | [] => rfl
  | v :: vs => by simp [PyData.plainAll, PyData.plain, plain_ints vs]
theorem depth_ints : ∀ vs : List Int, PyData.depthAll (vs.map PyData.int) ≤ 1
  | [] => by simp [PyData.depthAll]
  | v :: vs => by
    have := depth_ints vs
    simp [PyData.depthAll, PyData.depth]
    try omega
theorem okIn_ints (v : Int) (vs : List Int) : okIn (.int v) (vs.map PyData.int) = true := by
  have h1 := plain_ints vs
  have h2 := depth_ints vs
  unfold okIn
  simp only [Bool.and_eq_true, decide_eq_true_eq]
  refine ⟨⟨⟨by simp [PyData.plain], h1⟩, by simp [PyData.depth]⟩, by omega⟩
theorem any_ints (v : Int) : ∀ vs : List Int, ((vs.map PyData.int).any fun d => PyData.eqv d (.int v)) = decide (v ∈ vs)
  | [] => by simp
  | x :: vs => by
    rw [List.map_cons, List.any_cons, any_ints v vs]
    by_cases h : x = v
    · subst h; simp [PyData.eqv]
    · have h' : ¬ v = x := fun z => h z.symm
      simp [PyData.eqv, h, h']
@[simp] theorem in_l (v : Int) (vs : List Int) : din (.int v) (.list (vs.map PyData.int)) = some (decide (v ∈ vs)) := by rw [di_l, okIn_ints, any_ints, if_pos rfl]
@[simp] theorem in_t (v : Int) (vs : List Int) : din (.int v) (.tuple (vs.map PyData.int)) = some (decide (v ∈ vs)) := by rw [di_t, okIn_ints, any_ints, if_pos rfl]
theorem eqv_ints : ∀ vs ws : List Int, PyData.eqvAll (vs.map PyData.int) (ws.map PyData.int) = decide (vs = ws)
  | [], [] => by simp [PyData.eqvAll]
  | [], w :: ws => by simp [PyData.eqvAll]
  | v :: vs, [] => by simp [PyData.eqvAll]
  | v :: vs, w :: ws => by
    rw [List.map_cons, List.map_cons]
    unfold PyData.eqvAll
    rw [eqv_ints vs ws]
    simp [PyData.eqv]
    rfl
theorem okEq_t (vs ws : List Int) : okEq (iT vs) (iT ws) = true := by
  have a := plain_ints vs; have b := plain_ints ws; have c := depth_ints vs; have d := depth_ints ws
  simp [okEq, PyData.plain, PyData.depth, a, b]; omega
theorem okEq_l (vs ws : List Int) : okEq (iL vs) (iL ws) = true := by
  have a := plain_ints vs; have b := plain_ints ws; have c := depth_ints vs; have d := depth_ints ws
  simp [okEq, PyData.plain, PyData.depth, a, b]; omega
@[simp] theorem eq_t (vs ws : List Int) : dcmp .Eq (iT vs) (iT ws) = some (decide (vs = ws)) := by
  rw [dc_eq, okEq_t, if_pos rfl]; unfold PyData.eqv; rw [eqv_ints]
@[simp] theorem eq_l (vs ws : List Int) : dcmp .Eq (iL vs) (iL ws) = some (decide (vs = ws)) := by
  rw [dc_eq, okEq_l, if_pos rfl]; unfold PyData.eqv; rw [eqv_ints]
@[simp] theorem ne_t (vs ws : List Int) : dcmp .NotEq (iT vs) (iT ws) = some (!decide (vs = ws)) := by
  rw [dc_ne, okEq_t, if_pos rfl]; unfold PyData.eqv; rw [eqv_ints]
@[simp] theorem ne_l (vs ws : List Int) : dcmp .NotEq (iL vs) (iL ws) = some (!decide (vs = ws)) := by
  rw [dc_ne, okEq_l, if_pos rfl]; unfold PyData.eqv; rw [eqv_ints]
theorem eqv_nil (ds : List D) : PyData.eqvAll ds [] = decide (ds = []) := by cases ds <;> simp [PyData.eqvAll]
/-- a list of data good for equality -/
def eqOk (ds : List D) : Prop := PyData.plainAll ds = true ∧ PyData.depthAll ds ≤ 19
theorem eqOk_ints (vs : List Int) : eqOk (vs.map PyData.int) := ⟨plain_ints vs, Nat.le_trans (depth_ints vs) (by decide)⟩
@[simp] theorem eq_l0 {ds : List D} (h : eqOk ds) : dcmp .Eq (.list ds) (.list []) = some (decide (ds = [])) := by
  have : okEq (.list ds) (.list []) = true := by simp [okEq, PyData.plain, PyData.depth, PyData.plainAll, PyData.depthAll, h.1]; have := h.2; omega
  rw [dc_eq, this, if_pos rfl]; unfold PyData.eqv; rw [eqv_nil]
@[simp] theorem ne_l0 {ds : List D} (h : eqOk ds) : dcmp .NotEq (.list ds) (.list []) = some (!decide (ds = [])) := by
  have : okEq (.list ds) (.list []) = true := by simp [okEq, PyData.plain, PyData.depth, PyData.plainAll, PyData.depthAll, h.1]; have := h.2; omega
  rw [dc_ne, this, if_pos rfl]; unfold PyData.eqv; rw [eqv_nil]
@[simp] theorem ints_map (vs : List Int) : ints? (vs.map PyData.int) = some vs := ints?_map vs
theorem long_of {xs : List D} (h : xs.length ≤ 1000000) : isLong xs = true := decide_eq_true h
@[simp] theorem bools_map {α : Type} (l : List α) (f : α → Bool) : bools? (l.map fun x => PyData.bool (f x)) = some (l.map f) := bools?_of l f
@[simp] theorem eq_b (p q : Bool) : dcmp .Eq (.bool p) (.bool q) = some (p == q) := by cases p <;> cases q <;> decide
@[simp] theorem ne_b (p q : Bool) : dcmp .NotEq (.bool p) (.bool q) = some (!(p == q)) := by cases p <;> cases q <;> decide
@[simp] theorem all_tt {α : Type} (l : List α) : (l.map fun _ => true).all id = true := by
  induction l with
  | nil => rfl
  | cons a l ih => simp
@[simp] theorem cut_lo {xs : List D} {i : Int} (h : 0 ≤ i) : cutD xs (some i) none = xs.drop i.toNat := by
  unfold cutD
  simp only [sIx]
  rw [if_pos h]
  by_cases h : i.toNat ≤ xs.length
  · rw [show min i.toNat xs.length = i.toNat by omega, List.take_of_length_le (by rw [List.length_drop]; omega)]
  · rw [List.drop_eq_nil_of_le (by omega), List.drop_eq_nil_of_le (by omega), List.take_nil]
@[simp] theorem cut_hi {xs : List D} {i : Int} (h : 0 ≤ i) : cutD xs none (some i) = xs.take i.toNat := by
  unfold cutD
  simp only [sIx]
  rw [if_pos h]
  simp
@[simp] theorem lg_d {xs : List D} : isLong xs = decide (xs.length ≤ 1000000) := id rfl
@[simp] theorem zip_ii (vs ws : List Int) : ((vs.map PyData.int).zip (ws.map PyData.int)).map (fun p => PyData.tuple [p.1, p.2]) = (vs.zip ws).map fun p => PyData.tuple [.int p.1, .int p.2] := by
  rw [List.zip_map, List.map_map]; rfl
@[simp] theorem idx_t {vs : List Int} {v : Int} (h : v ∈ vs) : dindex (iT vs) (.int v) = some (.int (vs.idxOf v : Nat)) := by
  show (items? (iT vs)).bind _ = _
  rw [items_iT]
  simp only [Option.bind_some, ints_map, int?, h, if_true]
theorem get_m {α : Type} {enc : α → D} {l : List α} {i : Nat} (h : i < l.length) : (l.map enc)[i]? = some (enc (l[i]'h)) := by
  rw [List.getElem?_map, List.getElem?_eq_getElem h]; rfl
section
variable {C : Calls} {R : Fl → Env → Prop}
/-- a loop with a state -/
theorem for_st {α σ : Type} {t : Tg} {b : ISs} {enc : α → D} (I : σ → Env → Prop) (f : σ → α → σ) (s0 : σ) : ∀ {l : List α} {e : Env}, I s0 e → (∀ a ∈ l, ∀ s e, I s e → turnS C t b (enc a) e fun fl e2 => fl = .next ∧ I (f s a) e2) → (∀ e, I (l.foldl f s0) e → R .next e) → wpFor C t b (l.map enc) e R := by
  intro l
  induction l generalizing s0 with
  | nil => intro e h0 _ fin; exact fin e h0
  | cons a l ih =>
    intro e h0 h fin
    obtain ⟨e1, h1, h2⟩ := h a List.mem_cons_self s0 e h0
    obtain ⟨fl, e2, h3, rfl, h4⟩ := wR_ex.mp h2
    unfold wpFor
    rw [List.map_cons]
    unfold forGo
    rw [h1]
    simp only [h3]
    exact ih (f s0 a) h4 (fun a ha => h a (List.mem_cons_of_mem _ ha)) fin
/-- a loop that keeps a property, and may end with a value -/
theorem for_keep {α : Type} {t : Tg} {b : ISs} {enc : α → D} (I : Env → Prop) : ∀ {l : List α} {e : Env}, I e → (∀ a ∈ l, ∀ e, I e → turnS C t b (enc a) e fun fl e2 => (fl = .next ∧ I e2) ∨ ∃ o d, fl = .ret o d ∧ R fl e2) → (∀ e, I e → R .next e) → wpFor C t b (l.map enc) e R := by
  intro l
  induction l with
  | nil => intro e h0 _ fin; exact fin e h0
  | cons a l ih =>
    intro e h0 h fin
    obtain ⟨e1, h1, h2⟩ := h a List.mem_cons_self e h0
    obtain ⟨fl, e2, h3, h4⟩ := wR_ex.mp h2
    unfold wpFor
    rw [List.map_cons]
    unfold forGo
    rw [h1]
    simp only [h3]
    rcases h4 with ⟨rfl, h4⟩ | ⟨o, d, rfl, h4⟩
    · exact ih h4 (fun a ha => h a (List.mem_cons_of_mem _ ha)) fin
    · exact h4
end
/-! kept from simp: only the places are worked out -/
def Hd (I : Env → Prop) (_ : Bx I) (e : Env) : Prop := I e
theorem Hd.i {I : Env → Prop} {b : Bx I} {e : Env} (h : I e) : Hd I b e := h
def Hl (I : List D → Env → Prop) (_ : Bx I) (xs : List D) (e : Env) : Prop := I xs e
theorem Hl.i {I : List D → Env → Prop} {b : Bx I} {xs : List D} {e : Env} (h : I xs e) : Hl I b xs e := h
def Hq (Q : D → D → Prop) (_ : Bx Q) (d s : D) : Prop := Q d s
theorem Hq.i {Q : D → D → Prop} {b : Bx Q} {d s : D} (h : Q d s) : Hq Q b d s := h
theorem wC_runh {T : Tab} {k : Nat} (hk : 1 ≤ k) {f : String} {fn : Fn} {ds : List D} {s : D} {Q : D → D → Prop} (hT : T f = some fn) (h : ds.length = fn.ps) (hs : ∀ j, k = j + 1 → wpS (callk T j) fn.body (envOf fn ds s) (retQ fn (Hq Q ⟨⟩))) : wpC (callk T k) f ds s Q := wC_runk (Q := Hq Q ⟨⟩) hk hT h hs
section
variable {C : Calls} {R : Fl → Env → Prop} {e : Env}
theorem for_h {t : Tg} {b : ISs} (I : Nat → Env → Prop) {xs : List D} (h0 : I 0 e) (h : ∀ (i : Nat) (hi : i < xs.length) e, I i e → turnS C t b xs[i] e fun f e2 => f = .next ∧ Hd (I (i + 1)) ⟨⟩ e2) (fin : ∀ e, I xs.length e → R .next e) : wpFor C t b xs e R := for_wp I h0 h fin
theorem lc_h {vs : List Nat} {x : IE} {tg : Tg} {R : D → Env → Prop} {xs : List D} (I : Nat → List D → Env → Prop) (h0 : I 0 [] e)
    (h : ∀ (i : Nat) (hi : i < xs.length) acc e, I i acc e → ∃ e1, bindT tg xs[i] (wipeE e vs) = some e1 ∧ wpE C x e1 fun d e2 => Hl (I (i + 1)) ⟨⟩ (acc ++ [d]) e2) (fin : ∀ ys e2, I xs.length ys e2 → R (.list ys) (backE e e2 vs)) : wpL C vs x tg xs e R := lc_wpI I h0 h fin
theorem lcf_h {vs : List Nat} {x c : IE} {tg : Tg} {R : D → Env → Prop} {xs : List D} (I : Nat → List D → Env → Prop) (h0 : I 0 [] e)
    (h : ∀ (i : Nat) (hi : i < xs.length) acc e, I i acc e → ∃ e1, bindT tg xs[i] (wipeE e vs) = some e1 ∧ wpE C c e1 fun d e2 => ∃ b, d = .bool b ∧ ifQ b (wpE C x e2 fun d e3 => Hl (I (i + 1)) ⟨⟩ (acc ++ [d]) e3) (Hl (I (i + 1)) ⟨⟩ acc e2)) (fin : ∀ ys e2, I xs.length ys e2 → R (.list ys) (backE e e2 vs)) : wpLF C vs x tg c xs e R := by
  refine lcf_wpI I h0 (fun i hi acc e he => ?_) fin
  obtain ⟨e1, h1, h2⟩ := h i hi acc e he
  refine ⟨e1, h1, wR_imp h2 fun d e2 ⟨b, hb, h3⟩ => ⟨b, hb, ?_⟩⟩
  cases b <;> exact h3
theorem while_h {t : IE} {b : ISs} (I : Nat → Env → Prop) (n : Nat) (hn : n < fuel) (h0 : I 0 e) (h : ∀ i, i < n → ∀ e, I i e → wpE C t e fun d e1 => d = .bool true ∧ wpS C b e1 fun f e2 => f = .next ∧ Hd (I (i + 1)) ⟨⟩ e2) (hl : ∀ e, I n e → wpE C t e fun d e1 => d = .bool false ∧ R .next e1) : wpWh C t b e R := while_wp I n hn h0 h hl
end
/-! ## lists and moves -/
section
variable {T : Tab} {k : Nat}
theorem between_ok (B : Base T) (hk : 1 ≤ k) (v a b : Int) : callk T k "is_between" [.int v, .int a, .int b] .none = .ok (.bool (decide (a ≤ v) && decide (v ≤ b))) .none := by
  refine wC_is (wC_runk hk (B.ext _ _ tt_is_between) rfl fun j _ => ?_)
  by_cases h : a ≤ v <;> simp [f_is_between, b_is_between, -List.map_map, -List.any_map, -List.all_map, h]
theorem power_ok (B : Base T) (hk : 1 ≤ k) (n : Nat) (hn : n ≤ 1000000) : callk T k "power" [.int n] .none = .ok (.int (2 ^ n)) .none := by
  refine wC_is (wC_runk hk (B.ext _ _ tt_power) rfl fun j _ => ?_)
  have hs : smallI n = true := decide_eq_true (show _ ∧ _ by omega)
  simp [f_power, b_power, -List.map_map, -List.any_map, -List.all_map, hs]
  refine for_wp (fun i e => ∃ t, e = [.val (.int n), .val (.int (2 ^ i)), t]) ⟨_, rfl⟩ ?_ ?_
  · rintro i hi e ⟨t, rfl⟩
    have mo : mulOk (2 ^ i) 2 = true := by unfold mulOk; simp
    simp [turnS, rngL, b_power_L1, -List.map_map, -List.any_map, -List.all_map, mo, Int.pow_succ]
  · rintro e ⟨t, rfl⟩
    simp [rngL, -List.map_map, -List.any_map, -List.all_map]

theorem islist_ok (B : Base T) (hk : 2 ≤ k) {vs : List Int} (g : GoodL vs) : callk T k "is_list" [iT vs] .none = .ok (.bool true) .none := by
  obtain ⟨g1, g2, g3, g4⟩ := g
  refine wC_is (wC_runk (by omega) (B.ext _ _ tt_is_list) rfl fun j hj => ?_)
  have l1 : (1 : Int) ≤ (vs.length : Int) := by omega
  have l2 : (vs.length : Int) ≤ 12 := by omega
  have lg : vs.length ≤ 1000000 := by omega
  simp [f_is_list, b_is_list, -List.map_map, -List.any_map, -List.all_map, l1, l2, lg]
  refine lc_wp (fun _ => .bool true) (fun v hv => ?_) ?_
  · have hb := between_ok B (show 1 ≤ j by omega) v 0 99
    have h := g3 v hv
    simp [-List.map_map, -List.any_map, -List.all_map, wC_eq hb, h.1, h.2]
  · have hz : vs.length ≤ 4000 := by omega
    simp [-List.map_map, -List.any_map, -List.all_map, hz, dd_self g4]
theorem checklist_ok (B : Base T) (hk : 3 ≤ k) {vs : List Int} (g : GoodL vs) : callk T k "check_list" [iT vs] .none = .ok .none .none := by
  refine wC_is (wC_runk (by omega) (B.ext _ _ tt_check_list) rfl fun j hj => ?_)
  simp [f_check_list, b_check_list, -List.map_map, -List.any_map, -List.all_map, wC_eq (islist_ok B (show 2 ≤ j by omega) g)]
def GoodSel (vs sel : List Int) : Prop := (∀ v ∈ sel, v ∈ vs) ∧ sel.Pairwise (· < ·)
theorem pair_len {sel : List Int} (h : sel.Pairwise (· < ·)) (hb : ∀ v ∈ sel, 0 ≤ v ∧ v ≤ 99) : sel.length ≤ 100 := by
  have key : ∀ (l : List Int) (a : Int), l.Pairwise (· < ·) → (∀ v ∈ l, a ≤ v ∧ v ≤ 99) → (l.length : Int) ≤ 100 - a ∨ l = [] := by
    intro l
    induction l with
    | nil => intro a _ _; exact .inr rfl
    | cons x l ih =>
      intro a hp hv
      obtain ⟨h1, h2⟩ := List.pairwise_cons.mp hp
      have hx := hv x (List.mem_cons_self ..)
      rcases ih (x + 1) h2 (fun v hv' => ⟨by have := h1 v hv'; omega, (hv v (List.mem_cons_of_mem _ hv')).2⟩) with h | h
      · refine .inl ?_
        rw [List.length_cons]
        omega
      · subst h
        refine .inl ?_
        simp
        omega
  rcases key sel 0 h hb with h | h
  · omega
  · subst h; simp
theorem zip_pairs {sel : List Int} (h : sel.Pairwise (· < ·)) : ∀ p ∈ sel.zip sel.tail, p.1 < p.2 := by
  induction sel with
  | nil => intro p hp; simp at hp
  | cons x l ih =>
    obtain ⟨h1, h2⟩ := List.pairwise_cons.mp h
    cases l with
    | nil => intro p hp; simp at hp
    | cons y l =>
      intro p hp
      simp only [List.tail_cons, List.zip_cons_cons, List.mem_cons] at hp
      rcases hp with rfl | hp
      · exact h1 y (List.mem_cons_self ..)
      · exact ih h2 p (by simpa using hp)
theorem issel_ok (B : Base T) (hk : 2 ≤ k) {vs sel : List Int} (g : GoodL vs) (hs : GoodSel vs sel) : callk T k "is_selection" [iT vs, iT sel] .none = .ok (.bool true) .none := by
  obtain ⟨g1, g2, g3, g4⟩ := g
  obtain ⟨s1, s2⟩ := hs
  have hb9 : ∀ v ∈ sel, 0 ≤ v ∧ v ≤ 99 := fun v hv => g3 v (s1 v hv)
  have hl := pair_len s2 hb9
  have lg : sel.length ≤ 1000000 := by omega
  refine wC_is (wC_runk (by omega) (B.ext _ _ tt_is_selection) rfl fun j hj => ?_)
  simp [f_is_selection, b_is_selection, -List.map_map, -List.any_map, -List.all_map, lg]
  refine lc_wp (fun _ => .bool true) (fun v hv => ?_) ?_
  · have hb := between_ok B (show 1 ≤ j by omega) v 0 99
    have h := hb9 v hv
    simp [-List.map_map, -List.any_map, -List.all_map, wC_eq hb, h.1, h.2]
  · simp [-List.map_map, -List.any_map, -List.all_map, lg]
    refine lc_wp (fun _ => .bool true) (fun v hv => ?_) ?_
    · simp [-List.map_map, -List.any_map, -List.all_map, s1 v hv]
    · have hz : ((sel.map PyData.int).zip (sel.map PyData.int).tail).map (fun p => PyData.tuple [p.1, p.2]) = (sel.zip sel.tail).map fun p => PyData.tuple [.int p.1, .int p.2] := by
        rw [← List.map_tail, zip_ii]
      simp [-List.map_map, -List.any_map, -List.all_map, hz]
      refine ⟨by omega, lc_wp (fun _ => .bool true) (fun v hv => ?_) ?_⟩
      · simp [-List.map_map, -List.any_map, -List.all_map, zip_pairs s2 v hv]
      · simp [-List.map_map, -List.any_map, -List.all_map]
end
end BT
namespace BT
open PySem
/-! ## moves, breaks, labels: what the program's functions give -/
abbrev rT (rows : List (List Int)) : D := .tuple (rows.map iT)
def pMoved (vs sel : List Int) : List Int := vs.filter (fun v => decide (v ∈ sel)) ++ vs.filter (fun v => !decide (v ∈ sel))
def pAfter (vs : List Int) (rows : List (List Int)) : List Int := rows.foldl pMoved vs
def pPlaces (vs tg : List Int) : List Int := tg.map fun v => ((vs.idxOf v : Nat) : Int)
def pBreaks (vs tg : List Int) : List Int := ((List.range (tg.length - 1)).filter fun i => decide ((pPlaces vs tg).getD (i + 1) 0 < (pPlaces vs tg).getD i 0)).map fun i : Nat => 1 + (i : Int)
/-- the least m with n < 2 ^ m -/
def mf (n : Nat) : Nat := if n = 0 then 0 else n.log2 + 1
theorem mf_iff (n m : Nat) : n < 2 ^ m ↔ mf n ≤ m := by
  unfold mf
  by_cases h : n = 0
  · rw [if_pos h, h]
    exact ⟨fun _ => Nat.zero_le _, fun _ => Nat.two_pow_pos m⟩
  · rw [if_neg h, ← Nat.log2_lt h]
    exact ⟨fun h => h, fun h => h⟩
def pLabel (v : Int) : List (List Int) → Int
  | [] => 0
  | r :: rs => 2 * pLabel v rs + if v ∈ r then 0 else 1
def pSel (vs vals : List Int) (i : Nat) : List Int := sortI (((vs.zip vals).filter fun p => decide (p.2 / 2 ^ i % 2 = 0)).map (·.1))
def pDecode (vs : List Int) (n : Nat) (vals : List Int) : List (List Int) := (List.range n).map (pSel vs vals)
theorem GoodL.perm {vs tg : List Int} (g : GoodL vs) (hp : tg.Perm vs) : GoodL tg :=
  ⟨by rw [hp.length_eq]; exact g.1, by rw [hp.length_eq]; exact g.2.1, fun v hv => g.2.2.1 v (hp.mem_iff.mp hv), hp.nodup_iff.mpr g.2.2.2⟩
theorem sorted_perm_eq : ∀ {l m : List Int}, l.Pairwise (· ≤ ·) → m.Pairwise (· ≤ ·) → l.Perm m → l = m := by
  intro l m hl hm hp
  exact hp.eq_of_pairwise (le := (· ≤ ·)) (fun a b _ _ h1 h2 => Int.le_antisymm h1 h2) hl hm
theorem sortI_congr {ns ms : List Int} (h : ns.Perm ms) : sortI ns = sortI ms := sorted_perm_eq (sortI_sorted _) (sortI_sorted _) ((sortI_perm ns).trans (h.trans (sortI_perm ms).symm))
theorem pBreaks_len (vs tg : List Int) : (pBreaks vs tg).length ≤ tg.length - 1 := by
  unfold pBreaks
  rw [List.length_map]
  exact Nat.le_trans (List.length_filter_le _ _) (by rw [List.length_range]; omega)
theorem dv_pow {i : Nat} (h : i ≤ 8000) : dvOk ((2 : Int) ^ i) = true := by
  have e : (2 : Int) ^ i = ((2 ^ i : Nat) : Int) := by simp
  have p := Nat.two_pow_pos i
  unfold dvOk
  rw [e, Int.natAbs_natCast, Nat.log2_two_pow]
  simp only [Bool.and_eq_true, Bool.or_eq_true, decide_eq_true_eq]
  exact ⟨by omega, .inr (by omega)⟩
theorem pSel_le (vs vals : List Int) (i : Nat) : (pSel vs vals i).length ≤ vs.length := by
  unfold pSel
  rw [(sortI_perm _).length_eq, List.length_map]
  refine Nat.le_trans (List.length_filter_le _ _) ?_
  rw [List.length_zip]
  omega
section
variable {T : Tab} {k : Nat}
theorem GoodL.le {vs : List Int} (g : GoodL vs) : vs.length ≤ 1000000 := Nat.le_trans g.2.1 (by decide)
theorem aremoves_ok (B : Base T) (hk : 3 ≤ k) {vs : List Int} (g : GoodL vs) {rows : List (List Int)} (hr : ∀ r ∈ rows, GoodSel vs r) (hl : rows.length ≤ 30) : callk T k "are_moves" [iT vs, rT rows] .none = .ok (.bool true) .none := by
  refine wC_is (wC_runk (by omega) (B.ext _ _ tt_are_moves) rfl fun j hj => ?_)
  have l1 : ¬ ((30 : Int) < (rows.length : Int)) := by omega
  have lg : rows.length ≤ 1000000 := by omega
  simp [f_are_moves, b_are_moves, -List.map_map, -List.any_map, -List.all_map, l1, lg]
  refine lc_wp (fun _ => .bool true) (fun r hm => ?_) ?_
  · simp [-List.map_map, -List.any_map, -List.all_map, wC_eq (issel_ok B (show 2 ≤ j by omega) g (hr r hm))]
  · simp [-List.map_map, -List.any_map, -List.all_map]
theorem checkmoves_ok (B : Base T) (hk : 4 ≤ k) {vs : List Int} (g : GoodL vs) {rows : List (List Int)} (hr : ∀ r ∈ rows, GoodSel vs r) (hl : rows.length ≤ 30) : callk T k "check_moves" [iT vs, rT rows] .none = .ok .none .none := by
  refine wC_is (wC_runk (by omega) (B.ext _ _ tt_check_moves) rfl fun j hj => ?_)
  simp [f_check_moves, b_check_moves, -List.map_map, -List.any_map, -List.all_map, wC_eq (aremoves_ok B (show 3 ≤ j by omega) g hr hl)]
theorem ismoves_ok (B : Base T) (hk : 4 ≤ k) {vs : List Int} (g : GoodL vs) {rows : List (List Int)} (hr : ∀ r ∈ rows, GoodSel vs r) (hl : rows.length ≤ 30) : callk T k "is_moves" [iT vs, rT rows] .none = .ok (.bool true) .none := by
  refine wC_is (wC_runk (by omega) (B.ext _ _ tt_is_moves) rfl fun j hj => ?_)
  simp [f_is_moves, b_is_moves, -List.map_map, -List.any_map, -List.all_map, wC_eq (checklist_ok B (show 3 ≤ j by omega) g), wC_eq (aremoves_ok B (show 3 ≤ j by omega) g hr hl)]
theorem checknumber_ok (B : Base T) (hk : 2 ≤ k) (n : Nat) (hn : n ≤ 30) : callk T k "check_number" [.int n] .none = .ok .none .none := by
  refine wC_is (wC_runk (by omega) (B.ext _ _ tt_check_number) rfl fun j hj => ?_)
  have h1 : (n : Int) ≤ 30 := by omega
  simp [f_check_number, b_check_number, -List.map_map, -List.any_map, -List.all_map, wC_eq (between_ok B (show 1 ≤ j by omega) _ _ _), h1]
theorem checksize_ok (B : Base T) (hk : 2 ≤ k) (n : Nat) (h0 : 1 ≤ n) (hn : n ≤ 12) : callk T k "check_size" [.int n] .none = .ok .none .none := by
  refine wC_is (wC_runk (by omega) (B.ext _ _ tt_check_size) rfl fun j hj => ?_)
  have h1 : (n : Int) ≤ 12 := by omega
  have h2 : (1 : Int) ≤ n := by omega
  simp [f_check_size, b_check_size, -List.map_map, -List.any_map, -List.all_map, wC_eq (between_ok B (show 1 ≤ j by omega) _ _ _), h1, h2]
theorem moved_ok (B : Base T) (hk : 1 ≤ k) {vs : List Int} (sel : List Int) (hl : vs.length ≤ 1000) : callk T k "moved" [iT vs, iT sel] .none = .ok (iT (pMoved vs sel)) .none := by
  refine wC_is (wC_runk (by omega) (B.ext _ _ tt_moved) rfl fun j hj => ?_)
  have lg : vs.length ≤ 1000000 := by omega
  simp [f_moved, b_moved, -List.map_map, -List.any_map, -List.all_map, lg]
  refine lcf_wp (fun v => decide (v ∈ sel)) PyData.int (fun v hv => ?_) ?_
  · by_cases h : v ∈ sel <;> simp [-List.map_map, -List.any_map, -List.all_map, h]
  · simp [-List.map_map, -List.any_map, -List.all_map, lg]
    refine lcf_wp (fun v => !decide (v ∈ sel)) PyData.int (fun v hv => ?_) ?_
    · by_cases h : v ∈ sel <;> simp [-List.map_map, -List.any_map, -List.all_map, h]
    · have f1 : (vs.filter fun v => decide (v ∈ sel)).length ≤ vs.length := List.length_filter_le _ _
      have f2 : (vs.filter fun v => !decide (v ∈ sel)).length ≤ vs.length := List.length_filter_le _ _
      have f3 : (vs.filter fun v => decide (v ∈ sel)).length + (vs.filter fun v => !decide (v ∈ sel)).length ≤ 1000000 := by omega
      simp [-List.map_map, -List.any_map, -List.all_map, f3, pMoved]
theorem lmoved_ok (B : Base T) (hk : 1 ≤ k) {vs : List Int} (sel : List Int) (hl : vs.length ≤ 1000) : callk T k "_law_moved" [iT vs, iT sel] .none = .ok (iT (pMoved vs sel)) .none := by
  refine wC_is (wC_runk (by omega) (B.ext _ _ tt_law_moved) rfl fun j hj => ?_)
  have lg : vs.length ≤ 1000000 := by omega
  simp [f_law_moved, b_law_moved, -List.map_map, -List.any_map, -List.all_map, lg]
  refine lcf_wp (fun v => decide (v ∈ sel)) PyData.int (fun v hv => ?_) ?_
  · by_cases h : v ∈ sel <;> simp [-List.map_map, -List.any_map, -List.all_map, h]
  · simp [-List.map_map, -List.any_map, -List.all_map, lg]
    refine lcf_wp (fun v => !decide (v ∈ sel)) PyData.int (fun v hv => ?_) ?_
    · by_cases h : v ∈ sel <;> simp [-List.map_map, -List.any_map, -List.all_map, h]
    · have f1 : (vs.filter fun v => decide (v ∈ sel)).length ≤ vs.length := List.length_filter_le _ _
      have f2 : (vs.filter fun v => !decide (v ∈ sel)).length ≤ vs.length := List.length_filter_le _ _
      have f3 : (vs.filter fun v => decide (v ∈ sel)).length + (vs.filter fun v => !decide (v ∈ sel)).length ≤ 1000000 := by omega
      simp [-List.map_map, -List.any_map, -List.all_map, f3, pMoved]
theorem pMoved_perm (vs sel : List Int) : (pMoved vs sel).Perm vs := by
  unfold pMoved
  exact List.filter_append_perm _ _
theorem pMoved_len (vs sel : List Int) : (pMoved vs sel).length = vs.length := (pMoved_perm vs sel).length_eq
theorem pAfter_perm (vs : List Int) (rows : List (List Int)) : (pAfter vs rows).Perm vs := by
  induction rows generalizing vs with
  | nil => exact List.Perm.refl _
  | cons r rows ih => exact (ih (pMoved vs r)).trans (pMoved_perm vs r)
theorem pAfter_len (vs : List Int) (rows : List (List Int)) : (pAfter vs rows).length = vs.length := (pAfter_perm vs rows).length_eq
theorem after_ok (B : Base T) (hk : 2 ≤ k) {vs : List Int} (rows : List (List Int)) (hl : vs.length ≤ 1000) : callk T k "after" [iT vs, rT rows] .none = .ok (iT (pAfter vs rows)) .none := by
  refine wC_is (wC_runk (by omega) (B.ext _ _ tt_after) rfl fun j hj => ?_)
  simp [f_after, b_after, -List.map_map, -List.any_map, -List.all_map]
  refine for_st (fun ws e => ws.length ≤ 1000 ∧ ∃ t, e = [.val (iT ws), .val (rT rows), t]) pMoved vs ⟨hl, _, rfl⟩ ?_ ?_
  · rintro r hr ws e ⟨h, t, rfl⟩
    have h2 := pMoved_len ws r
    simp [turnS, b_after_L1, -List.map_map, -List.any_map, -List.all_map, wC_eq (moved_ok B (show 1 ≤ j by omega) r h), h2, h]
  · rintro e ⟨h, t, rfl⟩
    simp [-List.map_map, -List.any_map, -List.all_map, pAfter]
theorem lafter_ok (B : Base T) (hk : 2 ≤ k) {vs : List Int} (rows : List (List Int)) (hl : vs.length ≤ 1000) : callk T k "_law_after" [iT vs, rT rows] .none = .ok (iT (pAfter vs rows)) .none := by
  refine wC_is (wC_runk (by omega) (B.ext _ _ tt_law_after) rfl fun j hj => ?_)
  simp [f_law_after, b_law_after, -List.map_map, -List.any_map, -List.all_map]
  refine for_st (fun ws e => ws.length ≤ 1000 ∧ ∃ t, e = [.val (iT ws), .val (rT rows), t]) pMoved vs ⟨hl, _, rfl⟩ ?_ ?_
  · rintro r hr ws e ⟨h, t, rfl⟩
    have h2 := pMoved_len ws r
    simp [turnS, b_law_after_L1, -List.map_map, -List.any_map, -List.all_map, wC_eq (lmoved_ok B (show 1 ≤ j by omega) r h), h2, h]
  · rintro e ⟨h, t, rfl⟩
    simp [-List.map_map, -List.any_map, -List.all_map, pAfter]
theorem apply_ok (B : Base T) (hk : 5 ≤ k) {vs : List Int} (g : GoodL vs) {rows : List (List Int)} (hr : ∀ r ∈ rows, GoodSel vs r) (hl : rows.length ≤ 30) : callk T k "apply" [iT vs, rT rows] .none = .ok (iT (pAfter vs rows)) .none := by
  refine wC_is (wC_runk (by omega) (B.ext _ _ tt_apply) rfl fun j hj => ?_)
  simp [f_apply, b_apply, -List.map_map, -List.any_map, -List.all_map, wC_eq (checklist_ok B (show 3 ≤ j by omega) g), wC_eq (checkmoves_ok B (show 4 ≤ j by omega) g hr hl), wC_eq (after_ok B (show 2 ≤ j by omega) rows (show vs.length ≤ 1000 by have := g.2.1; omega))]
theorem lbreaks_ok (B : Base T) (hk : 1 ≤ k) {vs tg : List Int} (hp : ∀ v ∈ tg, v ∈ vs) (hl : tg.length ≤ 1000) : callk T k "_law_breaks" [iT vs, iT tg] .none = .ok (iL (pBreaks vs tg)) .none := by
  refine wC_is (wC_runk (by omega) (B.ext _ _ tt_law_breaks) rfl fun j hj => ?_)
  have lg : tg.length ≤ 1000000 := by omega
  simp [f_law_breaks, b_law_breaks, -List.map_map, -List.any_map, -List.all_map, lg]
  refine lc_wp (fun v => .int (vs.idxOf v : Nat)) (fun v hv => ?_) ?_
  · simp [-List.map_map, -List.any_map, -List.all_map, hp v hv]
  · have hs : smallI tg.length = true := decide_eq_true (show _ ∧ _ by omega)
    simp [-List.map_map, -List.any_map, -List.all_map, hs]
    refine ⟨rfl, by simp [rngL]; omega, ?_⟩
    unfold rngL
    refine lcf_wp (fun i => decide ((pPlaces vs tg).getD (i + 1) 0 < (pPlaces vs tg).getD i 0)) (fun i : Nat => .int (1 + (i : Int))) (fun i hi => ?_) ?_
    · have h1 : i + 1 < tg.length := by have := List.mem_range.mp hi; omega
      have h0 : i < tg.length := by omega
      have q1 : ∀ L : List D, atD L (1 + (i : Int)) = L[i + 1]? := fun L => by rw [show 1 + (i : Int) = ((i + 1 : Nat) : Int) by omega, at_n]
      have q0 : ∀ L : List D, atD L (1 + (i : Int) - 1) = L[i]? := fun L => by rw [show 1 + (i : Int) - 1 = (i : Int) by omega, at_n]
      simp [-List.map_map, -List.any_map, -List.all_map, pPlaces, q0, q1, h0, h1]
    · simp [-List.map_map, -List.any_map, -List.all_map, pBreaks]
      rw [List.map_map]
      rfl
theorem breaksof_ok (B : Base T) (hk : 1 ≤ k) {vs tg : List Int} (hp : ∀ v ∈ tg, v ∈ vs) (hl : tg.length ≤ 1000) : callk T k "breaks_of" [iT vs, iT tg] .none = .ok (iL (pBreaks vs tg)) .none := by
  refine wC_is (wC_runk (by omega) (B.ext _ _ tt_breaks_of) rfl fun j hj => ?_)
  have lg : tg.length ≤ 1000000 := by omega
  simp [f_breaks_of, b_breaks_of, -List.map_map, -List.any_map, -List.all_map, lg]
  refine lc_wp (fun v => .int (vs.idxOf v : Nat)) (fun v hv => ?_) ?_
  · simp [-List.map_map, -List.any_map, -List.all_map, hp v hv]
  · have hs : smallI tg.length = true := decide_eq_true (show _ ∧ _ by omega)
    simp [-List.map_map, -List.any_map, -List.all_map, hs]
    refine ⟨rfl, by simp [rngL]; omega, ?_⟩
    unfold rngL
    refine lcf_wp (fun i => decide ((pPlaces vs tg).getD (i + 1) 0 < (pPlaces vs tg).getD i 0)) (fun i : Nat => .int (1 + (i : Int))) (fun i hi => ?_) ?_
    · have h1 : i + 1 < tg.length := by have := List.mem_range.mp hi; omega
      have h0 : i < tg.length := by omega
      have q1 : ∀ L : List D, atD L (1 + (i : Int)) = L[i + 1]? := fun L => by rw [show 1 + (i : Int) = ((i + 1 : Nat) : Int) by omega, at_n]
      have q0 : ∀ L : List D, atD L (1 + (i : Int) - 1) = L[i]? := fun L => by rw [show 1 + (i : Int) - 1 = (i : Int) by omega, at_n]
      simp [-List.map_map, -List.any_map, -List.all_map, pPlaces, q0, q1, h0, h1]
    · simp [-List.map_map, -List.any_map, -List.all_map, pBreaks]
      rw [List.map_map]
      rfl
theorem istarget_ok (B : Base T) (hk : 3 ≤ k) {vs tg : List Int} (g : GoodL vs) (hp : tg.Perm vs) : callk T k "is_target" [iT vs, iT tg] .none = .ok (.bool true) .none := by
  refine wC_is (wC_runk (by omega) (B.ext _ _ tt_is_target) rfl fun j hj => ?_)
  simp [f_is_target, b_is_target, -List.map_map, -List.any_map, -List.all_map, wC_eq (islist_ok B (show 2 ≤ j by omega) (g.perm hp)), sortI_congr hp]
theorem checktarget_ok (B : Base T) (hk : 4 ≤ k) {vs tg : List Int} (g : GoodL vs) (hp : tg.Perm vs) : callk T k "check_target" [iT vs, iT tg] .none = .ok .none .none := by
  refine wC_is (wC_runk (by omega) (B.ext _ _ tt_check_target) rfl fun j hj => ?_)
  simp [f_check_target, b_check_target, -List.map_map, -List.any_map, -List.all_map, wC_eq (istarget_ok B (show 3 ≤ j by omega) g hp)]
theorem perm_in {vs tg : List Int} (hp : tg.Perm vs) : ∀ v ∈ tg, v ∈ vs := fun _ h => hp.mem_iff.mp h
theorem breaks_ok (B : Base T) (hk : 5 ≤ k) {vs tg : List Int} (g : GoodL vs) (hp : tg.Perm vs) : callk T k "breaks" [iT vs, iT tg] .none = .ok (iL (pBreaks vs tg)) .none := by
  refine wC_is (wC_runk (by omega) (B.ext _ _ tt_breaks) rfl fun j hj => ?_)
  have hl : tg.length ≤ 1000 := by have := g.2.1; have := hp.length_eq; omega
  simp [f_breaks, b_breaks, -List.map_map, -List.any_map, -List.all_map, wC_eq (checklist_ok B (show 3 ≤ j by omega) g), wC_eq (checktarget_ok B (show 4 ≤ j by omega) g hp), wC_eq (breaksof_ok B (show 1 ≤ j by omega) (perm_in hp) hl)]
theorem movesfor_ok (B : Base T) (hk : 2 ≤ k) (n : Nat) (hn : n ≤ 1000) : callk T k "moves_for" [.int n] .none = .ok (.int (mf n)) .none := by
  refine wC_is (wC_runk (by omega) (B.ext _ _ tt_moves_for) rfl fun j hj => ?_)
  have hm : mf n ≤ 10 := (mf_iff n 10).mp (by omega)
  have key : ∀ i : Nat, ((2 : Int) ^ i < (n : Int) + 1) ↔ i < mf n := fun i => by
    have h := mf_iff n i
    have : ((2 : Int) ^ i < (n : Int) + 1) ↔ ¬ (n < 2 ^ i) := by
      have h2 : ((2 ^ i : Nat) : Int) = (2 : Int) ^ i := by simp
      omega
    rw [this, h]; omega
  simp [f_moves_for, b_moves_for, -List.map_map, -List.any_map, -List.all_map]
  refine while_wp (fun i e => e = [.val (.int n), .val (.int i)]) (mf n) (by show _ < 1000000; omega) rfl ?_ ?_
  · rintro i hi e rfl
    simp [b_moves_for_L1, -List.map_map, -List.any_map, -List.all_map, wC_eq (power_ok B (show 1 ≤ j by omega) i (by omega)), key, hi]
  · rintro e rfl
    simp [-List.map_map, -List.any_map, -List.all_map, wC_eq (power_ok B (show 1 ≤ j by omega) (mf n) (by omega)), key]
theorem fewestmoves_ok (B : Base T) (hk : 5 ≤ k) {vs tg : List Int} (g : GoodL vs) (hp : tg.Perm vs) : callk T k "fewest_moves" [iT vs, iT tg] .none = .ok (.int (mf (pBreaks vs tg).length)) .none := by
  refine wC_is (wC_runk (by omega) (B.ext _ _ tt_fewest_moves) rfl fun j hj => ?_)
  have hl : tg.length ≤ 12 := by have := g.2.1; have := hp.length_eq; omega
  have hb := pBreaks_len vs tg
  simp [f_fewest_moves, b_fewest_moves, -List.map_map, -List.any_map, -List.all_map, wC_eq (checklist_ok B (show 3 ≤ j by omega) g), wC_eq (checktarget_ok B (show 4 ≤ j by omega) g hp), wC_eq (breaksof_ok B (show 1 ≤ j by omega) (perm_in hp) (show tg.length ≤ 1000 by omega)), wC_eq (movesfor_ok B (show 2 ≤ j by omega) (pBreaks vs tg).length (by omega))]
theorem labelof_ok (B : Base T) (hk : 1 ≤ k) (v : Int) (rows : List (List Int)) : callk T k "label_of" [.int v, rT rows] .none = .ok (.int (pLabel v rows)) .none := by
  refine wC_is (wC_runk (by omega) (B.ext _ _ tt_label_of) rfl fun j hj => ?_)
  simp [f_label_of, b_label_of, -List.map_map, -List.any_map, -List.all_map]
  rw [← List.map_reverse]
  refine for_st (fun (l : Int) e => ∃ t, e = [.val (.int v), .val (rT rows), .val (.int l), t]) (fun l r => 2 * l + if v ∈ r then 0 else 1) 0 ⟨_, rfl⟩ ?_ ?_
  · rintro r hr l e ⟨t, rfl⟩
    have mo : mulOk 2 l = true := by unfold mulOk; simp
    by_cases h : v ∈ r <;> simp [turnS, b_label_of_L1, -List.map_map, -List.any_map, -List.all_map, mo, h]
  · rintro e ⟨t, rfl⟩
    have : ∀ rs : List (List Int), rs.reverse.foldl (fun l r => 2 * l + if v ∈ r then (0 : Int) else 1) 0 = pLabel v rs := fun rs => by
      rw [List.foldl_reverse]
      induction rs with
      | nil => rfl
      | cons r rs ih => simp [pLabel, ih]
    simp [-List.map_map, -List.any_map, -List.all_map, this]
theorem labels_ok (B : Base T) (hk : 5 ≤ k) {vs : List Int} (g : GoodL vs) {rows : List (List Int)} (hr : ∀ r ∈ rows, GoodSel vs r) (hl : rows.length ≤ 30) : callk T k "labels" [iT vs, rT rows] .none = .ok (iT (vs.map fun v => pLabel v rows)) .none := by
  refine wC_is (wC_runk (by omega) (B.ext _ _ tt_labels) rfl fun j hj => ?_)
  simp [f_labels, b_labels, -List.map_map, -List.any_map, -List.all_map, wC_eq (checklist_ok B (show 3 ≤ j by omega) g), wC_eq (checkmoves_ok B (show 4 ≤ j by omega) g hr hl), g.le]
  refine lc_wp (fun v => .int (pLabel v rows)) (fun v hv => ?_) ?_
  · simp [-List.map_map, -List.any_map, -List.all_map, wC_eq (labelof_ok B (show 1 ≤ j by omega) v rows)]
  · simp [-List.map_map, -List.any_map, -List.all_map]
    rw [List.map_map]
    rfl
theorem decode_ok (B : Base T) (hk : 2 ≤ k) {vs vals : List Int} (n : Nat) (hn : n ≤ 1000) (hl : vs.length ≤ 1000) : callk T k "decode" [iT vs, .int n, iT vals] .none = .ok (rT (pDecode vs n vals)) .none := by
  refine wC_is (wC_runk (by omega) (B.ext _ _ tt_decode) rfl fun j hj => ?_)
  have hs : smallI n = true := decide_eq_true (show _ ∧ _ by omega)
  simp [f_decode, b_decode, -List.map_map, -List.any_map, -List.all_map, hs]
  refine for_wp (fun i e => ∃ t, e = [.val (iT vs), .val (.int n), .val (iT vals), .own (.list (((List.range i).map (pSel vs vals)).map iT)), t, .no, .no]) ⟨_, rfl⟩ ?_ ?_
  · rintro i hi e ⟨t, rfl⟩
    have hi : i < n := by simpa [rngL] using hi
    have lz : min vs.length vals.length ≤ 1000000 := by omega
    have lb : i < big := by show i < 1000000; omega
    simp [turnS, rngL, b_decode_L1, -List.map_map, -List.any_map, -List.all_map]
    refine ⟨by omega, lcf_wp (fun p => decide (p.2 / 2 ^ i % 2 = 0)) (fun p => .int p.1) (fun p hp => ?_) ?_⟩
    · by_cases h : p.2 / 2 ^ i % 2 = 0 <;> simp [-List.map_map, -List.any_map, -List.all_map, wC_eq (power_ok B (show 1 ≤ j by omega) i (by omega)), dv_pow (show i ≤ 8000 by omega), show dvOk 2 = true by decide, h]
    · have : (((vs.zip vals).filter fun p => decide (p.2 / 2 ^ i % 2 = 0)).map fun p => PyData.int p.1) = (((vs.zip vals).filter fun p => decide (p.2 / 2 ^ i % 2 = 0)).map (·.1)).map PyData.int := by rw [List.map_map]; rfl
      simp [-List.map_map, -List.any_map, -List.all_map, this, lb, List.range_succ, pSel]
  · rintro e ⟨t, rfl⟩
    simp [-List.map_map, -List.any_map, -List.all_map, rngL, pDecode]
theorem decode_okl (B : Base T) (hk : 2 ≤ k) {vs vals : List Int} (n : Nat) (hn : n ≤ 1000) (hl : vs.length ≤ 1000) : callk T k "decode" [iT vs, .int n, iL vals] .none = .ok (rT (pDecode vs n vals)) .none := by
  refine wC_is (wC_runk (by omega) (B.ext _ _ tt_decode) rfl fun j hj => ?_)
  have hs : smallI n = true := decide_eq_true (show _ ∧ _ by omega)
  simp [f_decode, b_decode, -List.map_map, -List.any_map, -List.all_map, hs]
  refine for_wp (fun i e => ∃ t, e = [.val (iT vs), .val (.int n), .val (iL vals), .own (.list (((List.range i).map (pSel vs vals)).map iT)), t, .no, .no]) ⟨_, rfl⟩ ?_ ?_
  · rintro i hi e ⟨t, rfl⟩
    have hi : i < n := by simpa [rngL] using hi
    have lz : min vs.length vals.length ≤ 1000000 := by omega
    have lb : i < big := by show i < 1000000; omega
    simp [turnS, rngL, b_decode_L1, -List.map_map, -List.any_map, -List.all_map]
    refine ⟨by omega, lcf_wp (fun p => decide (p.2 / 2 ^ i % 2 = 0)) (fun p => .int p.1) (fun p hp => ?_) ?_⟩
    · by_cases h : p.2 / 2 ^ i % 2 = 0 <;> simp [-List.map_map, -List.any_map, -List.all_map, wC_eq (power_ok B (show 1 ≤ j by omega) i (by omega)), dv_pow (show i ≤ 8000 by omega), show dvOk 2 = true by decide, h]
    · have : (((vs.zip vals).filter fun p => decide (p.2 / 2 ^ i % 2 = 0)).map fun p => PyData.int p.1) = (((vs.zip vals).filter fun p => decide (p.2 / 2 ^ i % 2 = 0)).map (·.1)).map PyData.int := by rw [List.map_map]; rfl
      simp [-List.map_map, -List.any_map, -List.all_map, this, lb, List.range_succ, pSel]
  · rintro e ⟨t, rfl⟩
    simp [-List.map_map, -List.any_map, -List.all_map, rngL, pDecode]
theorem movesfrom_ok (B : Base T) (hk : 4 ≤ k) {vs vals : List Int} (g : GoodL vs) (n : Nat) (hn : n ≤ 30) (hl : vals.length = vs.length) (hv : ∀ v ∈ vals, 0 ≤ v ∧ v < 2 ^ n) : callk T k "moves_from" [iT vs, .int n, iT vals] .none = .ok (rT (pDecode vs n vals)) .none := by
  refine wC_is (wC_runk (by omega) (B.ext _ _ tt_moves_from) rfl fun j hj => ?_)
  have h12 := g.2.1
  have lg : vs.length ≤ 1000000 := g.le
  simp [f_moves_from, b_moves_from, -List.map_map, -List.any_map, -List.all_map, wC_eq (checklist_ok B (show 3 ≤ j by omega) g), wC_eq (checknumber_ok B (show 2 ≤ j by omega) n hn), hl, lg]
  refine lc_wp (fun v => .bool true) (fun v hv' => ?_) ?_
  · have h1 := hv v hv'
    have h2 : v ≤ 2 ^ n - 1 := by omega
    simp [-List.map_map, -List.any_map, -List.all_map, wC_eq (power_ok B (show 1 ≤ j by omega) n (by omega)), wC_eq (between_ok B (show 1 ≤ j by omega) _ _ _), h1.1, h2]
  · simp [-List.map_map, -List.any_map, -List.all_map, wC_eq (decode_ok B (show 2 ≤ j by omega) n (show n ≤ 1000 by omega) (show vs.length ≤ 1000 by omega))]
theorem ltwo_ok (B : Base T) (hk : 1 ≤ k) (n : Nat) (hn : n ≤ 1000000) : callk T k "_law_two_to" [.int n] .none = .ok (.int (2 ^ n)) .none := by
  refine wC_is (wC_runk hk (B.ext _ _ tt_law_two_to) rfl fun j _ => ?_)
  have hs : smallI n = true := decide_eq_true (show _ ∧ _ by omega)
  simp [f_law_two_to, b_law_two_to, -List.map_map, -List.any_map, -List.all_map, hs]
  refine for_wp (fun i e => ∃ t, e = [.val (.int n), .val (.int (2 ^ i)), t]) ⟨_, rfl⟩ ?_ ?_
  · rintro i hi e ⟨t, rfl⟩
    have mo : mulOk (2 ^ i) 2 = true := by unfold mulOk; simp
    simp [turnS, rngL, b_law_two_to_L1, -List.map_map, -List.any_map, -List.all_map, mo, Int.pow_succ]
  · rintro e ⟨t, rfl⟩
    simp [rngL, -List.map_map, -List.any_map, -List.all_map]
theorem lfewest_ok (B : Base T) (hk : 2 ≤ k) {vs tg : List Int} (hp : ∀ v ∈ tg, v ∈ vs) (hl : tg.length ≤ 1000) : callk T k "_law_fewest" [iT vs, iT tg] .none = .ok (.int (mf (pBreaks vs tg).length)) .none := by
  refine wC_is (wC_runk (by omega) (B.ext _ _ tt_law_fewest) rfl fun j hj => ?_)
  have hb := pBreaks_len vs tg
  have hm : mf (pBreaks vs tg).length ≤ 10 := (mf_iff _ 10).mp (by omega)
  have key : ∀ i : Nat, ((2 : Int) ^ i ≤ ((pBreaks vs tg).length : Int)) ↔ i < mf (pBreaks vs tg).length := fun i => by
    have h := mf_iff (pBreaks vs tg).length i
    have : ((2 : Int) ^ i ≤ ((pBreaks vs tg).length : Int)) ↔ ¬ ((pBreaks vs tg).length < 2 ^ i) := by
      have h2 : ((2 ^ i : Nat) : Int) = (2 : Int) ^ i := by simp
      omega
    rw [this, h]; omega
  simp [f_law_fewest, b_law_fewest, -List.map_map, -List.any_map, -List.all_map]
  refine while_wp (fun i e => e = [.val (iT vs), .val (iT tg), .val (.int i)]) (mf (pBreaks vs tg).length) (by show _ < 1000000; omega) rfl ?_ ?_
  · rintro i hi e rfl
    simp [b_law_fewest_L1, -List.map_map, -List.any_map, -List.all_map, wC_eq (ltwo_ok B (show 1 ≤ j by omega) i (by omega)), wC_eq (lbreaks_ok B (show 1 ≤ j by omega) hp hl), key, hi]
  · rintro e rfl
    simp [-List.map_map, -List.any_map, -List.all_map, wC_eq (ltwo_ok B (show 1 ≤ j by omega) (mf (pBreaks vs tg).length) (by omega)), wC_eq (lbreaks_ok B (show 1 ≤ j by omega) hp hl), key]
end
end BT
namespace BT
open PySem
/-! ## what the laws draw -/
section
variable {T : Tab} {k n : Nat} {s : D}
theorem draw_wp (B : Base T) (hk : 1 ≤ k) (hs : Src n s) {size : Int} (h0 : 0 < size) (h1 : size < 1073741824) (hn : n < 1000000000) : wpC (callk T k) "_law_draw" [.int size] s fun d s' => ∃ x : Nat, d = .int x ∧ (x : Int) < size ∧ Src (n + 1) s' := by
  refine wC_of (B.draw k s n size hk hs (dv_small h0 h1) hn) fun d s' ⟨x, e, x0, x1, h⟩ => ⟨x.toNat, ?_, by omega, h⟩
  rw [e, Int.toNat_of_nonneg x0]
theorem llist_wp (B : Base T) (hk : 3 ≤ k) (hs : Src n s) {most : Int} (h0 : 0 < most) (h1 : most ≤ 12) (hn : n < 900000000) : wpC (callk T k) "_law_list" [.int most] s fun d s' => ∃ vs, d = iT vs ∧ GoodL vs ∧ (vs.length : Int) ≤ most ∧ Src (n + 20) s' := by
  refine wC_runh (by omega) (B.ext _ _ tt_law_list) rfl fun j hj => ?_
  simp [f_law_list, b_law_list, -List.map_map, -List.any_map, -List.all_map]
  refine wC_of (choice_wp B (show 2 ≤ j by omega) hs (.inl rfl) (by simp) (by simp) (by omega)) fun dw s1 ⟨hw, hs1⟩ => ?_
  have hw : ∃ wide : Int, dw = .int wide ∧ 0 < wide ∧ wide ≤ 100 := by
    simp at hw
    rcases hw with rfl | rfl
    · exact ⟨13, rfl, by omega, by omega⟩
    · exact ⟨100, rfl, by omega, by omega⟩
  obtain ⟨wide, rfl, w0, w1⟩ := hw
  simp [-List.map_map, -List.any_map, -List.all_map]
  refine wC_of (draw_wp B (show 1 ≤ j by omega) hs1 h0 (by omega) (by omega)) fun d s2 ⟨x, e, hx, hs2⟩ => ?_
  subst e
  have sm : smallI (1 + (x : Int)) = true := decide_eq_true (show _ ∧ _ by omega)
  simp [-List.map_map, -List.any_map, -List.all_map, sm]
  refine for_h (fun i e => ∃ s vs x4 x5, e = [.inp s, .val (.int most), .own (iL vs), .val (.int wide), x4, x5] ∧ Src (n + 2 + i) s ∧ vs.Nodup ∧ (∀ v ∈ vs, 0 ≤ v ∧ v ≤ 99) ∧ vs.length ≤ i ∧ (1 ≤ i → 1 ≤ vs.length)) ⟨s2, [], _, _, rfl, hs2, List.nodup_nil, by simp, by simp, by simp⟩ ?_ ?_
  · rintro i hi e ⟨s, vs, x4, x5, rfl, hs, nd, rg, le, ge⟩
    have hi : i < (1 + (x : Int)).toNat := by simpa [rngL] using hi
    have lb : vs.length < big := by show _ < 1000000; omega
    simp [turnS, rngL, b_law_list_L1, -List.map_map, -List.any_map, -List.all_map]
    refine wC_of (draw_wp B (show 1 ≤ j by omega) hs w0 (by omega) (by omega)) fun d s3 ⟨v, e, hv, hs3⟩ => ?_
    subst e
    by_cases hm : (v : Int) ∈ vs
    · simp [-List.map_map, -List.any_map, -List.all_map, hm]
      refine .i ⟨s3, vs, _, _, rfl, hs3, nd, rg, by omega, ?_⟩
      cases vs with
      | nil => simp at hm
      | cons _ _ => simp
    · simp [-List.map_map, -List.any_map, -List.all_map, hm, lb]
      refine .i ⟨s3, vs ++ [(v : Int)], .val (.int i), .val (.int v), by simp, hs3, ?_, ?_, by simp; omega, by simp⟩
      · refine List.nodup_append.mpr ⟨nd, by simp, fun a ha b hb => ?_⟩
        have hb : b = v := by simpa using hb
        exact fun z => hm (hb ▸ z ▸ ha)
      · intro a ha
        rcases List.mem_append.mp ha with ha | ha
        · exact rg a ha
        · have : a = v := by simpa using ha
          omega
  · rintro e ⟨s, vs, x4, x5, rfl, hs, nd, rg, le, ge⟩
    have hl : (rngL 0 (1 + (x : Int)).toNat).length = (1 + (x : Int)).toNat := rngL_len
    rw [hl] at le ge hs
    simp [-List.map_map, -List.any_map, -List.all_map]
    exact .i ⟨vs, rfl, ⟨ge (by omega), by omega, rg, nd⟩, by omega, hs.mono (by omega)⟩
theorem sort_good {vals acc : List Int} (nd : vals.Nodup) (h : acc.Sublist vals) : GoodSel vals (sortI acc) := by
  have pm := sortI_perm acc
  refine ⟨fun v hv => h.subset (pm.mem_iff.mp hv), ?_⟩
  have n2 : (sortI acc).Nodup := pm.nodup_iff.mpr (h.nodup nd)
  have p := sortI_sorted acc
  exact (List.pairwise_and_iff.mpr ⟨p, n2⟩).imp fun ⟨a, b⟩ => by omega
theorem lselection_wp (B : Base T) (hk : 3 ≤ k) (hs : Src n s) {vals : List Int} (nd : vals.Nodup) (hl : vals.length ≤ 12) (hn : n < 900000000) : wpC (callk T k) "_law_selection" [iT vals] s fun d s' => ∃ sel, d = iT sel ∧ GoodSel vals sel ∧ Src (n + 20) s' := by
  refine wC_runh (by omega) (B.ext _ _ tt_law_selection) rfl fun j hj => ?_
  simp [f_law_selection, b_law_selection, -List.map_map, -List.any_map, -List.all_map]
  refine wC_of (choice_wp B (show 2 ≤ j by omega) hs (.inl rfl) (by simp) (by simp) (by omega)) fun dw s1 ⟨hw, hs1⟩ => ?_
  have hw : ∃ wide : Int, dw = .int wide ∧ 0 < wide ∧ wide ≤ 100 := by
    simp at hw
    rcases hw with rfl | rfl | rfl
    · exact ⟨2, rfl, by omega, by omega⟩
    · exact ⟨4, rfl, by omega, by omega⟩
    · exact ⟨1, rfl, by omega, by omega⟩
  obtain ⟨wide, rfl, w0, w1⟩ := hw
  have lg : vals.length ≤ 1000000 := by omega
  simp [-List.map_map, -List.any_map, -List.all_map, lg]
  refine lcf_h (fun i ys e => ∃ s acc x, e = [.inp s, .val (iT vals), .val (.int wide), x] ∧ ys = acc.map PyData.int ∧ acc.Sublist (vals.take i) ∧ Src (n + 1 + i) s) ⟨s1, [], _, rfl, rfl, by simp, hs1⟩ ?_ ?_
  · rintro i hi ys e ⟨s, acc, x, rfl, rfl, sub, hs⟩
    have hi : i < vals.length := by simpa using hi
    have tk : vals.take (i + 1) = vals.take i ++ [vals[i]] := by rw [List.take_add_one, List.getElem?_eq_getElem hi]; rfl
    simp [-List.map_map, -List.any_map, -List.all_map]
    refine wC_of (draw_wp B (show 1 ≤ j by omega) hs w0 (by omega) (by omega)) fun d s3 ⟨v, e, hv, hs3⟩ => ?_
    subst e
    by_cases h : v = 0
    · simp [-List.map_map, -List.any_map, -List.all_map, h]
      exact .i ⟨s3, acc ++ [vals[i]], _, rfl, by simp, by rw [tk]; exact sub.append (List.Sublist.refl _), hs3⟩
    · simp [-List.map_map, -List.any_map, -List.all_map, h]
      exact .i ⟨s3, acc, _, rfl, rfl, by rw [tk]; exact sub.trans (List.sublist_append_left _ _), hs3⟩
  · rintro ys e ⟨s, acc, x, rfl, rfl, sub, hs⟩
    simp [-List.map_map, -List.any_map, -List.all_map] at sub hs ⊢
    exact .i ⟨_, rfl, sort_good nd sub, hs.mono (by omega)⟩
theorem lsomemoves_wp (B : Base T) (hk : 4 ≤ k) (hs : Src n s) {vals : List Int} (nd : vals.Nodup) (hl : vals.length ≤ 12) {most : Int} (m0 : 0 ≤ most) (m1 : most ≤ 1000) (hn : n < 800000000) : wpC (callk T k) "_law_some_moves" [iT vals, .int most] s fun d s' => ∃ rows, d = rT rows ∧ (∀ r ∈ rows, GoodSel vals r) ∧ (rows.length : Int) ≤ most ∧ Src (n + 1 + 20 * most.toNat) s' := by
  refine wC_runh (by omega) (B.ext _ _ tt_law_some_moves) rfl fun j hj => ?_
  simp [f_law_some_moves, b_law_some_moves, -List.map_map, -List.any_map, -List.all_map]
  refine wC_of (draw_wp B (show 1 ≤ j by omega) hs (show 0 < most + 1 by omega) (by omega) (by omega)) fun d s1 ⟨x, e, hx, hs1⟩ => ?_
  subst e
  have sm : smallI (x : Int) = true := decide_eq_true (show _ ∧ _ by omega)
  simp [-List.map_map, -List.any_map, -List.all_map, sm]
  refine ⟨by simp [rngL]; omega, lc_h (fun i ys e => ∃ s rows x, e = [.inp s, .val (iT vals), .val (.int most), x] ∧ ys = rows.map iT ∧ (∀ r ∈ rows, GoodSel vals r) ∧ rows.length = i ∧ Src (n + 1 + 20 * i) s) ⟨s1, [], _, rfl, rfl, by simp, rfl, hs1⟩ ?_ ?_⟩
  · rintro i hi ys e ⟨s, rows, x', rfl, rfl, good, rl, hs⟩
    have hi : i < x := by simpa [rngL] using hi
    simp [rngL, -List.map_map, -List.any_map, -List.all_map]
    refine wC_of (lselection_wp B (show 3 ≤ j by omega) hs nd hl (by omega)) fun d s3 ⟨sel, e, gs, hs3⟩ => ?_
    subst e
    refine .i ⟨s3, rows ++ [sel], _, rfl, by simp, ?_, by simp [rl], hs3.mono (by omega)⟩
    intro r hr
    rcases List.mem_append.mp hr with hr | hr
    · exact good r hr
    · have : r = sel := by simpa using hr
      rw [this]; exact gs
  · rintro ys e ⟨s, rows, x', rfl, rfl, good, rl, hs⟩
    have hl : (rngL 0 x).length = x := rngL_len
    rw [hl] at rl hs
    simp [-List.map_map, -List.any_map, -List.all_map]
    exact .i ⟨rows, rfl, good, by omega, hs.mono (by omega)⟩
theorem map_erase {α β : Type} (f : α → β) : ∀ (l : List α) (i : Nat), (l.map f).eraseIdx i = (l.eraseIdx i).map f
  | [], _ => rfl
  | _ :: _, 0 => rfl
  | x :: l, i + 1 => by rw [List.map_cons, List.eraseIdx_cons_succ, List.eraseIdx_cons_succ, List.map_cons, map_erase f l i]
theorem erase_perm {α : Type} : ∀ (l : List α) (i : Nat) (h : i < l.length), (l[i] :: l.eraseIdx i).Perm l
  | x :: l, 0, _ => List.Perm.refl _
  | x :: l, i + 1, h => by
    rw [List.eraseIdx_cons_succ]
    exact (List.Perm.swap _ _ _).trans ((erase_perm l i (by simpa using h)).cons x)
theorem lmixed_wp (B : Base T) (hk : 2 ≤ k) (hs : Src n s) {vals : List Int} (hl : vals.length ≤ 12) (hn : n < 800000000) : wpC (callk T k) "_law_mixed" [iT vals] s fun d s' => ∃ tg, d = iT tg ∧ tg.Perm vals ∧ Src (n + 20) s' := by
  refine wC_runh (by omega) (B.ext _ _ tt_law_mixed) rfl fun j hj => ?_
  simp [f_law_mixed, b_law_mixed, -List.map_map, -List.any_map, -List.all_map]
  refine while_h (fun i e => ∃ s rest found, e = [.inp s, .val (iT vals), .own (iL rest), .val (iT found)] ∧ (found ++ rest).Perm vals ∧ rest.length + i = vals.length ∧ Src (n + i) s) vals.length (by show _ < 1000000; omega) ⟨s, vals, [], rfl, by simp, by simp, hs⟩ ?_ ?_
  · rintro i hi e ⟨s, rest, found, rfl, pm, ln, hs⟩
    have h0 : rest ≠ [] := by intro h; subst h; simp at ln; omega
    have hp : 0 < rest.length := List.length_pos_iff.mpr h0
    simp [-List.map_map, -List.any_map, -List.all_map, eqOk_ints, h0, b_law_mixed_L1]
    refine wC_of (draw_wp B (show 1 ≤ j by omega) hs (by omega) (by omega) (by omega)) fun d s3 ⟨v, e, hv, hs3⟩ => ?_
    subst e
    have hv : v < rest.length := by omega
    have lg : found.length + 1 ≤ 1000000 := by have := pm.length_eq; simp at this; omega
    have v0 : (0 : Int) ≤ v := by omega
    simp [-List.map_map, -List.any_map, -List.all_map, List.getElem?_eq_getElem hv, lg]
    refine .i ⟨s3, rest.eraseIdx v, found ++ [rest[v]], by simp [map_erase], ?_, ?_, hs3⟩
    · refine List.Perm.trans ?_ pm
      rw [List.append_assoc]
      refine List.Perm.append_left _ ?_
      show (rest[v] :: rest.eraseIdx v).Perm rest
      exact erase_perm rest v hv
    · rw [List.length_eraseIdx_of_lt hv]; omega
  · rintro e ⟨s, rest, found, rfl, pm, ln, hs⟩
    have h0 : rest = [] := List.length_eq_zero_iff.mp (by omega)
    subst h0
    have h0 : eqOk [] := eqOk_ints []
    simp [-List.map_map, -List.any_map, -List.all_map, h0]
    exact .i ⟨found, rfl, by simpa using pm, hs.mono (by omega)⟩
theorem ltarget_wp (B : Base T) (hk : 5 ≤ k) (hs : Src n s) {vals : List Int} (g : GoodL vals) (hn : n < 700000000) : wpC (callk T k) "_law_target" [iT vals] s fun d s' => ∃ tg, d = iT tg ∧ tg.Perm vals ∧ Src (n + 100) s' := by
  have hl := g.2.1
  refine wC_runh (by omega) (B.ext _ _ tt_law_target) rfl fun j hj => ?_
  simp [f_law_target, b_law_target, -List.map_map, -List.any_map, -List.all_map]
  refine wC_of (draw_wp B (show 1 ≤ j by omega) hs (by omega) (by omega) (by omega)) fun d s1 ⟨v, e, hv, hs1⟩ => ?_
  subst e
  by_cases h0 : v = 0
  · simp [-List.map_map, -List.any_map, -List.all_map, h0]
    refine wC_of (lsomemoves_wp B (show 4 ≤ j by omega) hs1 g.2.2.2 hl (by omega) (by omega) (by omega)) fun d s2 ⟨rows, e, gr, lr, hs2⟩ => ?_
    subst e
    simp [-List.map_map, -List.any_map, -List.all_map, wC_eq (lafter_ok B (show 2 ≤ j by omega) rows (show vals.length ≤ 1000 by omega))]
    exact .i ⟨_, rfl, pAfter_perm _ _, hs2.mono (by simp)⟩
  · by_cases h1 : v = 1
    · simp [-List.map_map, -List.any_map, -List.all_map, h1]
      refine wC_of (draw_wp B (show 1 ≤ j by omega) hs1 (show (0 : Int) < vals.length + 1 by omega) (by omega) (by omega)) fun d s2 ⟨c, e, hc, hs2⟩ => ?_
      subst e
      have lg : min c vals.length + (vals.length - c) ≤ 1000000 := by omega
      simp [-List.map_map, -List.any_map, -List.all_map, lg]
      rw [← List.map_take, ← List.map_drop, ← List.map_reverse, ← List.map_append]
      exact .i ⟨_, rfl, ((List.reverse_perm _).append_right _).trans (by rw [List.take_append_drop]), hs2.mono (by omega)⟩
    · have h0' : ¬ ((v : Int) = 0) := by omega
      have h1' : ¬ ((v : Int) = 1) := by omega
      simp [-List.map_map, -List.any_map, -List.all_map, h0, h1, h0', h1']
      refine wC_of (lmixed_wp B (show 2 ≤ j by omega) hs1 hl (by omega)) fun d s2 ⟨tg, e, pm, hs2⟩ => ?_
      subst e
      simp [-List.map_map, -List.any_map, -List.all_map]
      exact .i ⟨tg, rfl, pm, hs2.mono (by omega)⟩
end
end BT
namespace BT
open PySem
section
variable {T : Tab} {k n : Nat} {s : D}
def kindN : D → Int
  | .bool _ => 1
  | .int _ => 2
  | .str _ => 3
  | .list _ => 4
  | .tuple _ => 5
  | _ => 6
theorem kind_ok (B : Base T) (hk : 1 ≤ k) (d : D) (nd : isDct d = false) : callk T k "_law_kind" [d] .none = .ok (.int (kindN d)) .none := by
  refine wC_is (wC_runk (by omega) (B.ext _ _ tt_law_kind) rfl fun j hj => ?_)
  cases d <;> first | (cases nd; done) | simp [f_law_kind, b_law_kind, -List.map_map, -List.any_map, -List.all_map, kindN]
/-- plain data: no dict, of depth at most m, no list too long -/
inductive Pl : Nat → D → Prop
  | non {m : Nat} : Pl m .none
  | bl {m : Nat} (b : Bool) : Pl m (.bool b)
  | int {m : Nat} (i : Int) : Pl m (.int i)
  | str {m : Nat} (x : Str) : Pl m (.str x)
  | lst {m : Nat} {xs : List D} : (∀ x ∈ xs, Pl m x) → xs.length ≤ big → Pl (m + 1) (.list xs)
  | tup {m : Nat} {xs : List D} : (∀ x ∈ xs, Pl m x) → xs.length ≤ big → Pl (m + 1) (.tuple xs)
theorem lequal_ok (B : Base T) : ∀ (m : Nat) (d : D) (k : Nat), m + 2 ≤ k → Pl m d → callk T k "_law_equal" [d, d] .none = .ok (.bool true) .none := by
  intro m
  have leaf : ∀ (k : Nat) (d : D), 2 ≤ k → isDct d = false → (kindN d ≤ 3 ∨ 6 ≤ kindN d) → okEq d d = true → PyData.eqv d d = true → callk T k "_law_equal" [d, d] .none = .ok (.bool true) .none := fun k d hk nd hkd h1 h2 => by
    refine wC_is (wC_runk (by omega) (B.ext _ _ tt_law_equal) rfl fun j hj => ?_)
    have kd := kind_ok B (show 1 ≤ j by omega) d nd
    rcases hkd with hk | hk
    · have n1 : ¬ (3 < kindN d) := by omega
      simp [f_law_equal, b_law_equal, -List.map_map, -List.any_map, -List.all_map, wC_eq kd, n1, dc_eq, h1, h2]
    · have n1 : 3 < kindN d := by omega
      have n2 : ¬ (kindN d < 6) := by omega
      simp [f_law_equal, b_law_equal, -List.map_map, -List.any_map, -List.all_map, wC_eq kd, n1, n2, dc_eq, h1, h2]
  have lf : ∀ (m k : Nat) (d : D), 2 ≤ k → Pl m d → (∀ xs, d ≠ .list xs) → (∀ xs, d ≠ .tuple xs) → callk T k "_law_equal" [d, d] .none = .ok (.bool true) .none := fun m k d hk h nl nt => by
    cases h with
    | non => exact leaf _ _ hk rfl (.inr (by decide)) (by decide) (by decide)
    | bl b => exact leaf _ _ hk rfl (.inl (show (1 : Int) ≤ 3 by decide)) (by cases b <;> decide) (by cases b <;> decide)
    | int i => exact leaf _ _ hk rfl (.inl (show (2 : Int) ≤ 3 by decide)) (by simp [okEq, PyData.plain, PyData.depth]) (by simp [PyData.eqv])
    | str x => exact leaf _ _ hk rfl (.inl (show (3 : Int) ≤ 3 by decide)) (by simp [okEq, PyData.plain, PyData.depth]) (by simp [PyData.eqv])
    | lst _ _ => exact absurd rfl (nl _)
    | tup _ _ => exact absurd rfl (nt _)
  induction m with
  | zero => exact fun d k hk h => lf 0 k d (by omega) h (by rintro xs rfl; cases h) (by rintro xs rfl; cases h)
  | succ m ih =>
    intro d k hk h
    have seq : ∀ (xs : List D) (d : D), (d = .list xs ∨ d = .tuple xs) → (∀ x ∈ xs, Pl m x) → xs.length ≤ big → callk T k "_law_equal" [d, d] .none = .ok (.bool true) .none := fun xs d hd hx hl => by
      have hl : xs.length ≤ 1000000 := hl
      refine wC_is (wC_runk (by omega) (B.ext _ _ tt_law_equal) rfl fun j hj => ?_)
      have kd := kind_ok B (show 1 ≤ j by omega) d (by rcases hd with rfl | rfl <;> rfl)
      have h0 : eqOk [] := eqOk_ints []
      have step : ∀ p ∈ xs.zipIdx, xs[p.2]? = some p.1 ∧ callk T j "_law_equal" [p.1, p.1] .none = .ok (.bool true) .none := fun p hp => by
        rw [List.mem_zipIdx_iff_getElem?] at hp
        exact ⟨hp, ih p.1 j (by omega) (hx _ (List.mem_of_getElem? hp))⟩
      rcases hd with rfl | rfl
      all_goals
        simp [f_law_equal, b_law_equal, -List.map_map, -List.any_map, -List.all_map, wC_eq kd, kindN, hl]
        refine lcf_wp (fun _ => false) (fun _ => .none) (fun p hp => ?_) ?_
        · obtain ⟨h1, h2⟩ := step p hp
          simp [-List.map_map, -List.any_map, -List.all_map, h1, wC_eq h2]
        · rw [show (xs.zipIdx.filter fun _ => false) = [] from List.filter_eq_nil_iff.mpr (by simp)]; simp [-List.map_map, -List.any_map, -List.all_map, h0]
    cases h with
    | lst hx hl => exact seq _ _ (.inl rfl) hx hl
    | tup hx hl => exact seq _ _ (.inr rfl) hx hl
    | non => exact lf 0 k _ (by omega) .non (by simp) (by simp)
    | bl b => exact lf 0 k _ (by omega) (.bl b) (by simp) (by simp)
    | int i => exact lf 0 k _ (by omega) (.int i) (by simp) (by simp)
    | str x => exact lf 0 k _ (by omega) (.str x) (by simp) (by simp)
theorem Pl_ints (vs : List Int) : ∀ x ∈ vs.map PyData.int, Pl 0 x := fun x hx => by
  obtain ⟨v, _, rfl⟩ := List.mem_map.mp hx
  exact .int v
theorem Pl_t {vs : List Int} (h : vs.length ≤ 1000000) : Pl 1 (iT vs) := .tup (Pl_ints vs) (by rw [List.length_map]; exact h)
theorem Pl_l {vs : List Int} (h : vs.length ≤ 1000000) : Pl 1 (iL vs) := .lst (Pl_ints vs) (by rw [List.length_map]; exact h)
theorem leq_i (B : Base T) (hk : 2 ≤ k) (i : Int) : callk T k "_law_equal" [.int i, .int i] .none = .ok (.bool true) .none := lequal_ok B 0 _ k hk (.int i)
theorem leq_t (B : Base T) (hk : 3 ≤ k) {vs : List Int} (h : vs.length ≤ 1000000) : callk T k "_law_equal" [iT vs, iT vs] .none = .ok (.bool true) .none := lequal_ok B 1 _ k hk (Pl_t h)
theorem leq_l (B : Base T) (hk : 3 ≤ k) {vs : List Int} (h : vs.length ≤ 1000000) : callk T k "_law_equal" [iL vs, iL vs] .none = .ok (.bool true) .none := lequal_ok B 1 _ k hk (Pl_l h)
end
end BT
namespace BT
open PySem
/-! ## helpers for laws -/
section
variable {C : Calls} {R : Fl → Env → Prop} {e : Env}
/-- a loop over data that keeps a property -/
theorem for_mem {t : Tg} {b : ISs} (I : Env → Prop) {xs : List D} (h0 : I e) (h : ∀ x ∈ xs, ∀ e, I e → turnS C t b x e fun fl e2 => fl = .next ∧ Hd I ⟨⟩ e2) (fin : ∀ e, I e → R .next e) : wpFor C t b xs e R := by
  have := for_keep (R := R) (C := C) (t := t) (b := b) (enc := fun d : D => d) I (l := xs) h0 (fun a ha e he => by
    obtain ⟨e1, h1, h2⟩ := h a ha e he
    exact ⟨e1, h1, wR_imp h2 fun fl e2 ⟨a, b⟩ => .inl ⟨a, b⟩⟩) fin
  rwa [List.map_id'] at this
/-- the loop over the cells -/
theorem for_cells {t : Tg} {b : ISs} (I : Env → Prop) {xs : List D} (hx : ∀ x ∈ xs, ∃ c : Int, x = .int c) (h0 : I e) (h : ∀ (c : Int) e, I e → turnS C t b (.int c) e fun fl e2 => fl = .next ∧ Hd I ⟨⟩ e2) (fin : ∀ e, I e → R .next e) : wpFor C t b xs e R :=
  for_mem I h0 (fun x hxm e he => by obtain ⟨c, rfl⟩ := hx x hxm; exact h c e he) fin
/-- a loop over mapped items that keeps a property -/
theorem for_memm {α : Type} {t : Tg} {b : ISs} {enc : α → D} (I : Env → Prop) {xs : List α} (h0 : I e) (h : ∀ x ∈ xs, ∀ e, I e → turnS C t b (enc x) e fun fl e2 => fl = .next ∧ Hd I ⟨⟩ e2) (fin : ∀ e, I e → R .next e) : wpFor C t b (xs.map enc) e R :=
  for_keep (R := R) (C := C) (t := t) (b := b) (enc := enc) I (l := xs) h0 (fun a ha e he => by
    obtain ⟨e1, h1, h2⟩ := h a ha e he
    exact ⟨e1, h1, wR_imp h2 fun fl e2 ⟨a, b⟩ => .inl ⟨a, b⟩⟩) fin
end
theorem cells_int (ns : List Int) (m : Nat) : ∀ x ∈ List.take m (PyData.int 0 :: ns.map PyData.int), ∃ c : Int, x = .int c := fun x hx => by
  rcases List.mem_cons.mp (List.mem_of_mem_take hx) with rfl | h
  · exact ⟨0, rfl⟩
  · obtain ⟨v, _, rfl⟩ := List.mem_map.mp h; exact ⟨v, rfl⟩
theorem cells_int' (ns : List Int) (m : Nat) : ∀ x ∈ PyData.int 0 :: List.take m (ns.map PyData.int), ∃ c : Int, x = .int c := fun x hx => by
  rcases List.mem_cons.mp hx with rfl | h
  · exact ⟨0, rfl⟩
  · obtain ⟨v, _, rfl⟩ := List.mem_map.mp (List.mem_of_mem_take h); exact ⟨v, rfl⟩
theorem enum_i (vs : List Int) : (vs.map PyData.int).zipIdx.map (fun p => PyData.tuple [PyData.int (p.2 : Nat), p.1]) = vs.zipIdx.map fun p => PyData.tuple [PyData.int (p.2 : Nat), PyData.int p.1] := by
  rw [List.zipIdx_map, List.map_map]; rfl
theorem rngL_at {lo : Int} {n i : Nat} (h : i < (rngL lo n).length) : (rngL lo n)[i] = .int (lo + (i : Int)) := by simp [rngL]
theorem fuel_d : fuel = 1000000 := rfl
end BT
namespace BT
open PySem
/-! ## positions moved to the top, again and again -/
theorem getD_at {α : Type} {l : List α} {i : Nat} {d : α} (h : i < l.length) : l.getD i d = l[i] := by simp [List.getD, h]
def pStep (vs ps : List Int) : List Int := (ps.map fun a => vs.getD a.toNat 0) ++ ((vs.zipIdx.filter fun p => !decide ((p.2 : Int) ∈ ps)).map (·.1))
def GoodPos (n : Nat) (ps : List Int) : Prop := ps.Pairwise (· < ·) ∧ ∀ a ∈ ps, 0 ≤ a ∧ a < n
def sig (n : Nat) (ps : List Int) : List Nat := ps.map Int.toNat ++ (List.range n).filter fun i : Nat => !decide ((i : Int) ∈ ps)
def pIt (vs ps : List Int) : Nat → List Int
  | 0 => vs
  | t + 1 => pStep (pIt vs ps t) ps
def fit (n : Nat) (ps : List Int) : Nat → Nat → Nat
  | 0, i => i
  | t + 1, i => fit n ps t ((sig n ps).getD i 0)
theorem pos_nats {n : Nat} {ps : List Int} (g : GoodPos n ps) : ps.map Int.toNat = (List.range n).filter fun i : Nat => decide ((i : Int) ∈ ps) := by
  have h1 : (ps.map Int.toNat).Pairwise (· < ·) := by
    rw [List.pairwise_map]
    exact g.1.imp_of_mem fun {a b} ha hb h => by have := g.2 a ha; have := g.2 b hb; omega
  have h2 : ((List.range n).filter fun i : Nat => decide ((i : Int) ∈ ps)).Pairwise (· < ·) := List.pairwise_lt_range.filter _
  refine List.Perm.eq_of_pairwise (le := (· < ·)) (fun a b _ _ x y => by omega) h1 h2 ?_
  refine (List.perm_ext_iff_of_nodup (h1.imp fun h => by omega) (h2.imp fun h => by omega)).mpr fun a => ?_
  rw [List.mem_map, List.mem_filter, List.mem_range, decide_eq_true_eq]
  constructor
  · rintro ⟨b, hb, rfl⟩
    have := g.2 b hb
    exact ⟨by omega, by rw [Int.toNat_of_nonneg this.1]; exact hb⟩
  · rintro ⟨ha, hm⟩
    exact ⟨a, hm, by omega⟩
theorem sig_perm {n : Nat} {ps : List Int} (g : GoodPos n ps) : (sig n ps).Perm (List.range n) := by
  unfold sig
  rw [pos_nats g]
  exact List.filter_append_perm _ _
theorem sig_len {n : Nat} {ps : List Int} (g : GoodPos n ps) : (sig n ps).length = n := by rw [(sig_perm g).length_eq, List.length_range]
theorem zipIdx_range (vs : List Int) : vs.zipIdx = (List.range vs.length).map fun i => (vs.getD i 0, i) := by
  refine List.ext_getElem (by simp) fun i h1 h2 => ?_
  have : i < vs.length := by simpa using h1
  simp [this]
theorem pStep_eq (vs ps : List Int) : pStep vs ps = (sig vs.length ps).map fun i => vs.getD i 0 := by
  unfold pStep sig
  rw [List.map_append, List.map_map, zipIdx_range, List.filter_map, List.map_map]
  rfl
theorem pStep_len {vs ps : List Int} (g : GoodPos vs.length ps) : (pStep vs ps).length = vs.length := by rw [pStep_eq, List.length_map, sig_len g]
theorem pIt_len {vs ps : List Int} (g : GoodPos vs.length ps) : ∀ t, (pIt vs ps t).length = vs.length
  | 0 => rfl
  | t + 1 => by
    have ih := pIt_len g t
    show (pStep (pIt vs ps t) ps).length = _
    rw [pStep_len (by rw [ih]; exact g), ih]
theorem sig_lt {n : Nat} {ps : List Int} (g : GoodPos n ps) {i : Nat} (h : i < n) : (sig n ps).getD i 0 < n := by
  have hl := sig_len g
  rw [getD_at (by omega)]
  exact List.mem_range.mp ((sig_perm g).mem_iff.mp (List.getElem_mem _))
theorem fit_lt {n : Nat} {ps : List Int} (g : GoodPos n ps) : ∀ (t : Nat) {i : Nat}, i < n → fit n ps t i < n
  | 0, _, h => h
  | t + 1, _, h => fit_lt g t (sig_lt g h)
theorem pIt_get {vs ps : List Int} (g : GoodPos vs.length ps) : ∀ (t : Nat) {i : Nat}, i < vs.length → (pIt vs ps t).getD i 0 = vs.getD (fit vs.length ps t i) 0
  | 0, _, _ => rfl
  | t + 1, i, h => by
    have hl := pIt_len g t
    have hs := sig_len g
    show (pStep (pIt vs ps t) ps).getD i 0 = _
    rw [pStep_eq, hl, getD_at (by rw [List.length_map, hs]; exact h), List.getElem_map]
    have := pIt_get g t (sig_lt g h)
    rw [getD_at (l := sig vs.length ps) (by omega)] at this
    rw [this]
    show _ = vs.getD (fit vs.length ps t ((sig vs.length ps).getD i 0)) 0
    rw [getD_at (l := sig vs.length ps) (by omega)]
theorem fit_add {n : Nat} {ps : List Int} : ∀ (a b i : Nat), fit n ps (a + b) i = fit n ps a (fit n ps b i)
  | a, 0, i => rfl
  | a, b + 1, i => by
    show fit n ps (a + b) ((sig n ps).getD i 0) = fit n ps a (fit n ps b ((sig n ps).getD i 0))
    exact fit_add a b _
theorem sig_inj {n : Nat} {ps : List Int} (g : GoodPos n ps) {i j : Nat} (hi : i < n) (hj : j < n) (h : (sig n ps).getD i 0 = (sig n ps).getD j 0) : i = j := by
  have hl := sig_len g
  have nd : (sig n ps).Nodup := (sig_perm g).nodup_iff.mpr List.nodup_range
  rw [getD_at (by omega), getD_at (by omega)] at h
  exact (List.getElem_inj nd).mp h
theorem fit_inj {n : Nat} {ps : List Int} (g : GoodPos n ps) : ∀ (t : Nat) {i j : Nat}, i < n → j < n → fit n ps t i = fit n ps t j → i = j
  | 0, _, _, _, _, h => h
  | t + 1, _, _, hi, hj, h => sig_inj g hi hj (fit_inj g t (sig_lt g hi) (sig_lt g hj) h)
theorem pigeon : ∀ (n : Nat) (l : List Nat), l.Nodup → (∀ x ∈ l, x < n) → l.length ≤ n
  | 0, l, _, h => by
    cases l with
    | nil => simp
    | cons x l => exact absurd (h x List.mem_cons_self) (by omega)
  | n + 1, l, nd, h => by
    have h1 := pigeon n (l.erase n) (nd.erase n) fun x hx => by
      have h2 := h x (List.mem_of_mem_erase hx)
      have h3 : x ≠ n := fun z => by subst z; exact absurd hx (by simp [nd.mem_erase_iff])
      omega
    have := List.length_erase_le (a := n) (l := l)
    have := List.le_length_erase (a := n) (l := l)
    omega
theorem fit_back {n : Nat} {ps : List Int} (g : GoodPos n ps) {i : Nat} (hi : i < n) : ∃ c, 1 ≤ c ∧ c ≤ n ∧ fit n ps c i = i := by
  have key : ¬ ((List.range (n + 1)).map fun t => fit n ps t i).Nodup := fun nd => by
    have := pigeon n _ nd (fun x hx => by obtain ⟨t, _, rfl⟩ := List.mem_map.mp hx; exact fit_lt g t hi)
    simp at this
    omega
  have : ∃ a b, a < b ∧ b ≤ n ∧ fit n ps a i = fit n ps b i := Classical.byContradiction fun hn => key <| by
    refine List.pairwise_map.mpr ?_
    refine (List.pairwise_lt_range (n := n + 1)).imp_of_mem fun {a b} ha hb hlt he => hn ⟨a, b, hlt, ?_, he⟩
    have := List.mem_range.mp hb
    omega
  obtain ⟨a, b, hab, hb, he⟩ := this
  refine ⟨b - a, by omega, by omega, ?_⟩
  rw [show b = a + (b - a) by omega, fit_add] at he
  exact (fit_inj g a hi (fit_lt g _ hi) he).symm
theorem fit_mul {n : Nat} {ps : List Int} {c i : Nat} (h : fit n ps c i = i) : ∀ m : Nat, fit n ps (c * m) i = i
  | 0 => rfl
  | m + 1 => by rw [Nat.mul_succ, fit_add, h, fit_mul h m]
theorem div12 : ∀ c : Nat, c ≤ 12 → 1 ≤ c → c * (27720 / c) = 27720 := by decide
theorem fit_all {n : Nat} {ps : List Int} (g : GoodPos n ps) (hn : n ≤ 12) {i : Nat} (hi : i < n) : fit n ps 27720 i = i := by
  obtain ⟨c, c1, c2, h⟩ := fit_back g hi
  rw [← div12 c (by omega) c1]
  exact fit_mul h _
/-- p is the period -/
def IsPer (n : Nat) (ps : List Int) (p : Nat) : Prop := 1 ≤ p ∧ p ≤ 27720 ∧ (∀ i, i < n → fit n ps p i = i) ∧ ∀ t, 1 ≤ t → t < p → ¬ ∀ i, i < n → fit n ps t i = i
theorem per_ex {n : Nat} {ps : List Int} (g : GoodPos n ps) (hn : n ≤ 12) : ∃ p, IsPer n ps p := by
  have gen : ∀ m : Nat, (∃ t, 1 ≤ t ∧ t ≤ m ∧ ∀ i, i < n → fit n ps t i = i) → ∃ p, 1 ≤ p ∧ p ≤ m ∧ (∀ i, i < n → fit n ps p i = i) ∧ ∀ t, 1 ≤ t → t < p → ¬ ∀ i, i < n → fit n ps t i = i := by
    intro m
    induction m with
    | zero => rintro ⟨t, h1, h2, _⟩; omega
    | succ m ih =>
      rintro ⟨t, h1, h2, h3⟩
      by_cases h : ∃ t, 1 ≤ t ∧ t ≤ m ∧ ∀ i, i < n → fit n ps t i = i
      · obtain ⟨p, a, b, c, d⟩ := ih h
        exact ⟨p, a, by omega, c, d⟩
      · refine ⟨t, h1, h2, h3, fun u hu1 hu2 hu3 => h ⟨u, hu1, by omega, hu3⟩⟩
  exact gen 27720 ⟨27720, by omega, Nat.le_refl _, fun i hi => fit_all g hn hi⟩
theorem pIt_back {vs ps : List Int} (g : GoodPos vs.length ps) (nd : vs.Nodup) (t : Nat) : pIt vs ps t = vs ↔ ∀ i, i < vs.length → fit vs.length ps t i = i := by
  have hl := pIt_len g t
  constructor
  · intro h i hi
    have h1 := pIt_get g t hi
    rw [h] at h1
    have h2 := fit_lt g t hi
    rw [getD_at hi, getD_at h2] at h1
    exact ((List.getElem_inj nd).mp h1).symm
  · intro h
    refine List.ext_getElem hl fun i h1 h2 => ?_
    have h3 := pIt_get g t h2
    rw [h i h2, getD_at h1, getD_at h2] at h3
    exact h3
theorem IsPer.back {vs ps : List Int} {p : Nat} (h : IsPer vs.length ps p) (g : GoodPos vs.length ps) (nd : vs.Nodup) : pIt vs ps p = vs ∧ ∀ t, 1 ≤ t → t < p → pIt vs ps t ≠ vs :=
  ⟨(pIt_back g nd p).mpr h.2.2.1, fun t h1 h2 h3 => h.2.2.2 t h1 h2 ((pIt_back g nd t).mp h3)⟩
/-- the list of the first whole numbers -/
def iota (n : Nat) : List Int := (List.range n).map fun i : Nat => (i : Int)
theorem iota_len (n : Nat) : (iota n).length = n := by simp [iota]
@[simp] theorem iota_at {n m : Nat} (h : m < (iota n).length) : (iota n)[m] = (m : Int) := by simp [iota]
theorem iota_nodup (n : Nat) : (iota n).Nodup := by
  refine List.pairwise_map.mpr ((List.nodup_range (n := n)).imp fun h => by omega)
theorem rng_iota (n : Nat) : rngL 0 n = (iota n).map PyData.int := by
  unfold rngL iota
  rw [List.map_map]
  refine List.map_congr_left fun i _ => ?_
  simp
/-- the selected items -/
def pTop (vs ps : List Int) : List Int := ps.map fun a => vs.getD a.toNat 0
theorem vs_range (vs : List Int) : vs = (List.range vs.length).map fun i => vs.getD i 0 := by
  refine List.ext_getElem (by simp) fun i h1 h2 => ?_
  simp [h1]
theorem getD_inj {vs : List Int} (nd : vs.Nodup) {i j : Nat} (hi : i < vs.length) (hj : j < vs.length) (h : vs.getD i 0 = vs.getD j 0) : i = j := by
  rw [getD_at hi, getD_at hj] at h
  exact (List.getElem_inj nd).mp h
theorem top_mem {vs ps : List Int} (g : GoodPos vs.length ps) (nd : vs.Nodup) {i : Nat} (hi : i < vs.length) : vs.getD i 0 ∈ pTop vs ps ↔ (i : Int) ∈ ps := by
  unfold pTop
  rw [List.mem_map]
  constructor
  · rintro ⟨a, ha, h⟩
    have := g.2 a ha
    have e := getD_inj nd (by omega) hi h
    rw [← e, Int.toNat_of_nonneg this.1]; exact ha
  · intro h
    exact ⟨i, h, by simp⟩
theorem pMoved_step {vs ps : List Int} (g : GoodPos vs.length ps) (nd : vs.Nodup) : pMoved vs (sortI (pTop vs ps)) = pStep vs ps := by
  have hm : ∀ v, v ∈ sortI (pTop vs ps) ↔ v ∈ pTop vs ps := fun v => (sortI_perm _).mem_iff
  unfold pMoved
  have e1 : (vs.filter fun v => decide (v ∈ sortI (pTop vs ps))) = vs.filter fun v => decide (v ∈ pTop vs ps) := List.filter_congr fun v _ => by simp only [hm]
  have e2 : (vs.filter fun v => !decide (v ∈ sortI (pTop vs ps))) = vs.filter fun v => !decide (v ∈ pTop vs ps) := List.filter_congr fun v _ => by simp only [hm]
  rw [e1, e2, pStep_eq]
  unfold sig
  rw [List.map_append, pos_nats g]
  congr 1
  · conv => lhs; rw [vs_range vs]
    rw [List.filter_map]
    congr 1
    refine List.filter_congr fun i hi => ?_
    have := top_mem g nd (List.mem_range.mp hi)
    rw [← vs_range vs]
    simp only [Function.comp, this]
  · conv => lhs; rw [vs_range vs]
    rw [List.filter_map]
    congr 1
    refine List.filter_congr fun i hi => ?_
    have := top_mem g nd (List.mem_range.mp hi)
    rw [← vs_range vs]
    simp only [Function.comp, this]
theorem top_good {vs ps : List Int} (g : GoodPos vs.length ps) (nd : vs.Nodup) : GoodSel vs (sortI (pTop vs ps)) := by
  have nt : (pTop vs ps).Nodup := by
    unfold pTop
    refine List.pairwise_map.mpr (g.1.imp_of_mem fun {a b} ha hb h e => ?_)
    have h1 := g.2 a ha
    have h2 := g.2 b hb
    have := getD_inj nd (by omega) (by omega) e
    omega
  have pm := sortI_perm (pTop vs ps)
  refine ⟨fun v hv => ?_, ?_⟩
  · obtain ⟨a, ha, rfl⟩ := List.mem_map.mp (pm.mem_iff.mp hv)
    have := g.2 a ha
    rw [getD_at (by omega)]
    exact List.getElem_mem _
  · exact (List.pairwise_and_iff.mpr ⟨sortI_sorted _, pm.nodup_iff.mpr nt⟩).imp fun ⟨a, b⟩ => by omega
end BT
namespace BT
open PySem
/-! ## labels: which lists moves lead to -/
def bit (v : Int) (r : List Int) : Int := if v ∈ r then 0 else 1
theorem bit_01 (v : Int) (r : List Int) : bit v r = 0 ∨ bit v r = 1 := by unfold bit; split <;> simp
theorem pLabel_c (v : Int) (r : List Int) (rs : List (List Int)) : pLabel v (r :: rs) = 2 * pLabel v rs + bit v r := rfl
theorem pLabel_lo (v : Int) : ∀ rows : List (List Int), 0 ≤ pLabel v rows
  | [] => Int.le_refl _
  | r :: rs => by have := pLabel_lo v rs; have := bit_01 v r; rw [pLabel_c]; omega
theorem pLabel_hi (v : Int) : ∀ rows : List (List Int), pLabel v rows < 2 ^ rows.length
  | [] => by show (0 : Int) < 2 ^ 0; decide
  | r :: rs => by
    have := pLabel_hi v rs; have := bit_01 v r
    rw [pLabel_c, List.length_cons, Int.pow_succ]; omega
theorem moved_pw {vs r : List Int} {lt : Int → Int → Prop} (h : vs.Pairwise lt) : (pMoved vs r).Pairwise fun a b => bit a r < bit b r ∨ (bit a r = bit b r ∧ lt a b) := by
  unfold pMoved
  refine List.pairwise_append.mpr ⟨?_, ?_, fun a ha b hb => ?_⟩
  · refine (h.filter _).imp_of_mem fun {a b} ha hb hl => .inr ⟨?_, hl⟩
    have h1 := of_decide_eq_true (List.mem_filter.mp ha).2
    have h2 := of_decide_eq_true (List.mem_filter.mp hb).2
    unfold bit; rw [if_pos h1, if_pos h2]
  · refine (h.filter _).imp_of_mem fun {a b} ha hb hl => .inr ⟨?_, hl⟩
    have h1 := (List.mem_filter.mp ha).2
    have h2 := (List.mem_filter.mp hb).2
    simp only [Bool.not_eq_true', decide_eq_false_iff_not] at h1 h2
    unfold bit; rw [if_neg h1, if_neg h2]
  · have h1 := of_decide_eq_true (List.mem_filter.mp ha).2
    have h2 := (List.mem_filter.mp hb).2
    simp only [Bool.not_eq_true', decide_eq_false_iff_not] at h2
    unfold bit; rw [if_pos h1, if_neg h2]
    exact .inl (by omega)
/-- the list behind moves is sorted by labels, the old order kept -/
theorem after_pw : ∀ (rows : List (List Int)) {vs : List Int} {lt : Int → Int → Prop}, vs.Pairwise lt → (pAfter vs rows).Pairwise fun a b => pLabel a rows < pLabel b rows ∨ (pLabel a rows = pLabel b rows ∧ lt a b)
  | [], vs, lt, h => h.imp fun hl => .inr ⟨rfl, hl⟩
  | r :: rs, vs, lt, h => by
    refine (after_pw rs (moved_pw (r := r) h)).imp fun {a b} hl => ?_
    have ha := bit_01 a r; have hb := bit_01 b r
    rw [pLabel_c, pLabel_c]
    rcases hl with hl | ⟨he, hl | ⟨hb', hl⟩⟩
    · exact .inl (by omega)
    · exact .inl (by omega)
    · exact .inr ⟨by omega, hl⟩
/-- the place in a list -/
abbrev ix (vs : List Int) (v : Int) : Nat := vs.idxOf v
theorem ix_pw : ∀ {vs : List Int}, vs.Nodup → vs.Pairwise fun a b => ix vs a < ix vs b := by
  intro vs nd
  refine List.pairwise_iff_getElem.mpr fun i j hi hj hij => ?_
  have h1 : ix vs vs[i] = i := nd.idxOf_getElem i hi
  have h2 : ix vs vs[j] = j := nd.idxOf_getElem j hj
  omega
theorem ix_inj {vs : List Int} {a b : Int} (ha : a ∈ vs) (hb : b ∈ vs) (h : ix vs a = ix vs b) : a = b := by
  have h1 := List.getElem_idxOf (List.idxOf_lt_length_of_mem ha)
  have h2 := List.getElem_idxOf (List.idxOf_lt_length_of_mem hb)
  rw [← h1, ← h2]
  congr 1
/-- labels that fit a target -/
def Fit (vs : List Int) (f : Int → Int) (tg : List Int) : Prop := tg.Pairwise fun a b => f a < f b ∨ (f a = f b ∧ ix vs a < ix vs b)
theorem after_iff {vs tg : List Int} (nd : vs.Nodup) (rows : List (List Int)) : pAfter vs rows = tg ↔ tg.Perm vs ∧ Fit vs (fun v => pLabel v rows) tg := by
  constructor
  · rintro rfl
    exact ⟨pAfter_perm vs rows, after_pw rows (ix_pw nd)⟩
  · rintro ⟨hp, hf⟩
    refine List.Perm.eq_of_pairwise (le := fun a b => pLabel a rows < pLabel b rows ∨ (pLabel a rows = pLabel b rows ∧ ix vs a < ix vs b)) (fun a b _ _ h1 h2 => ?_) (after_pw rows (ix_pw nd)) hf ((pAfter_perm vs rows).trans hp.symm)
    exfalso
    rcases h1 with h1 | ⟨h1, h1'⟩ <;> rcases h2 with h2 | ⟨h2, h2'⟩ <;> omega
/-- neighbours are enough -/
theorem fit_chain {vs : List Int} {f : Int → Int} : ∀ {tg : List Int}, Fit vs f tg ↔ ∀ i (h : i + 1 < tg.length), f tg[i] < f tg[i + 1] ∨ (f tg[i] = f tg[i + 1] ∧ ix vs tg[i] < ix vs tg[i + 1]) := by
  intro tg
  constructor
  · intro h i hi
    exact List.pairwise_iff_getElem.mp h i (i + 1) (by omega) hi (by omega)
  · intro h
    refine List.pairwise_iff_getElem.mpr fun i j hi hj hij => ?_
    obtain ⟨d, rfl⟩ : ∃ d, j = i + 1 + d := ⟨j - i - 1, by omega⟩
    clear hij
    induction d with
    | zero => exact h i hj
    | succ d ih =>
      have h1 := ih (by omega)
      have h2 := h (i + 1 + d) (by omega)
      have e : tg[i + 1 + (d + 1)] = tg[i + 1 + d + 1] := by congr 1
      rw [e]
      rcases h1 with h1 | ⟨h1, h1'⟩ <;> rcases h2 with h2 | ⟨h2, h2'⟩
      · exact .inl (by omega)
      · exact .inl (by omega)
      · exact .inl (by omega)
      · exact .inr ⟨by omega, by omega⟩
/-- a break between the places i and i + 1 -/
def Brk (vs tg : List Int) (i : Nat) : Prop := (pPlaces vs tg).getD (i + 1) 0 < (pPlaces vs tg).getD i 0
instance (vs tg : List Int) (i : Nat) : Decidable (Brk vs tg i) := inferInstanceAs (Decidable (_ < _))
theorem places_get {vs tg : List Int} {i : Nat} (h : i < tg.length) : (pPlaces vs tg).getD i 0 = ((ix vs tg[i] : Nat) : Int) := by
  unfold pPlaces; simp [h]
theorem brk_iff {vs tg : List Int} {i : Nat} (h : i + 1 < tg.length) : Brk vs tg i ↔ ix vs tg[i + 1] < ix vs tg[i] := by
  unfold Brk; rw [places_get h, places_get (by omega)]; omega
theorem fit_brk {vs tg : List Int} {f : Int → Int} (nd : tg.Nodup) (hm : ∀ v ∈ tg, v ∈ vs) : Fit vs f tg ↔ ∀ i (h : i + 1 < tg.length), f tg[i] ≤ f tg[i + 1] ∧ (Brk vs tg i → f tg[i] < f tg[i + 1]) := by
  rw [fit_chain]
  refine forall_congr' fun i => forall_congr' fun h => ?_
  rw [brk_iff h]
  have hne : ix vs tg[i] ≠ ix vs tg[i + 1] := fun e => by
    have := ix_inj (hm _ (List.getElem_mem _)) (hm _ (List.getElem_mem _)) e
    have := (List.getElem_inj nd).mp this
    omega
  constructor
  · rintro (h | ⟨h1, h2⟩)
    · exact ⟨by omega, fun _ => h⟩
    · exact ⟨by omega, fun h3 => by omega⟩
  · rintro ⟨h1, h2⟩
    by_cases hb : ix vs tg[i + 1] < ix vs tg[i]
    · exact .inl (h2 hb)
    · by_cases h3 : f tg[i] < f tg[i + 1]
      · exact .inl h3
      · exact .inr ⟨by omega, by omega⟩
/-! ## labels and moves, there and back -/
theorem label_bits (v : Int) : ∀ (n : Nat) (g : Nat → List Int) (x : Nat), (∀ j, j < n → (v ∈ g j ↔ x / 2 ^ j % 2 = 0)) → pLabel v ((List.range n).map g) = ((x % 2 ^ n : Nat) : Int)
  | 0, g, x, _ => by simp [pLabel, Nat.mod_one]
  | n + 1, g, x, h => by
    rw [List.range_succ_eq_map, List.map_cons, List.map_map, pLabel_c]
    have ih := label_bits v n (g ∘ Nat.succ) (x / 2) fun j hj => by
      have := h (j + 1) (by omega)
      rw [Function.comp, this, Nat.div_div_eq_div_mul, Nat.pow_succ, Nat.mul_comm 2]
    rw [ih]
    have h0 := h 0 (by omega)
    rw [Nat.pow_zero, Nat.div_one] at h0
    have hb : bit v (g 0) = ((x % 2 : Nat) : Int) := by
      unfold bit
      by_cases hm : v ∈ g 0
      · rw [if_pos hm, h0.mp hm]; rfl
      · rw [if_neg hm]
        have : x % 2 ≠ 0 := fun z => hm (h0.mpr z)
        omega
    rw [hb]
    have : x % 2 ^ (n + 1) = 2 * (x / 2 % 2 ^ n) + x % 2 := by
      rw [Nat.pow_succ, Nat.mul_comm (2 ^ n) 2, Nat.mod_mul]; omega
    omega
theorem bit_label (v : Int) : ∀ (rows : List (List Int)) (j : Nat) (h : j < rows.length), pLabel v rows / 2 ^ j % 2 = bit v rows[j]
  | r :: rs, 0, _ => by
    have := bit_01 v r
    rw [pLabel_c, Int.pow_zero, Int.ediv_one]
    show _ = bit v r
    omega
  | r :: rs, j + 1, h => by
    have ih := bit_label v rs j (by simpa using h)
    have := bit_01 v r
    rw [pLabel_c, Int.pow_succ, Int.mul_comm (2 ^ j) 2, ← Int.ediv_ediv_of_nonneg (by omega)]
    rw [show (2 * pLabel v rs + bit v r) / 2 = pLabel v rs by omega, ih]
    rfl
theorem mem_pSel {vs vals : List Int} (nd : vs.Nodup) (hl : vals.length = vs.length) {i : Nat} (hi : i < vs.length) (j : Nat) : vs[i] ∈ pSel vs vals j ↔ vals[i]'(by omega) / 2 ^ j % 2 = 0 := by
  unfold pSel
  rw [(sortI_perm _).mem_iff, List.mem_map]
  constructor
  · rintro ⟨⟨a, b⟩, h, e⟩
    obtain ⟨h1, h2⟩ := List.mem_filter.mp h
    obtain ⟨m, hm, e2⟩ := List.getElem_of_mem h1
    rw [List.getElem_zip] at e2
    have e3 : vs[m]'(by rw [List.length_zip] at hm; omega) = a := congrArg Prod.fst e2
    have e4 : vals[m]'(by rw [List.length_zip] at hm; omega) = b := congrArg Prod.snd e2
    have e5 : a = vs[i] := e
    have : m = i := (List.getElem_inj nd).mp (e3.trans e5)
    subst this
    rw [e4]
    exact of_decide_eq_true h2
  · intro h
    refine ⟨(vs[i], vals[i]'(by omega)), List.mem_filter.mpr ⟨?_, decide_eq_true h⟩, rfl⟩
    have : (vs.zip vals)[i]'(by rw [List.length_zip]; omega) = (vs[i], vals[i]'(by omega)) := List.getElem_zip
    rw [← this]
    exact List.getElem_mem _
theorem label_decode {vs vals : List Int} (nd : vs.Nodup) (hl : vals.length = vs.length) {n : Nat} (hv : ∀ v ∈ vals, 0 ≤ v ∧ v < 2 ^ n) {i : Nat} (hi : i < vs.length) : pLabel vs[i] (pDecode vs n vals) = vals[i]'(by omega) := by
  have h := hv _ (List.getElem_mem (show i < vals.length by omega))
  obtain ⟨x, hx⟩ := Int.eq_ofNat_of_zero_le h.1
  unfold pDecode
  rw [label_bits vs[i] n (pSel vs vals) x fun j hj => by
    rw [mem_pSel nd hl hi, hx]
    have : ((x : Int) / 2 ^ j % 2 = 0) ↔ (((x / 2 ^ j % 2 : Nat) : Int) = 0) := by
      rw [Int.natCast_emod, Int.natCast_ediv]; simp
    rw [this]; omega]
  rw [hx]
  congr 1
  refine Nat.mod_eq_of_lt ?_
  have h2 := h.2
  rw [hx] at h2
  have e : (2 : Int) ^ n = ((2 ^ n : Nat) : Int) := by simp
  rw [e] at h2
  omega
theorem decode_len (vs : List Int) (n : Nat) (vals : List Int) : (pDecode vs n vals).length = n := by simp [pDecode]
theorem zip_fst_sub : ∀ (vs vals : List Int), ((vs.zip vals).map (·.1)).Sublist vs
  | [], _ => by simp
  | v :: vs, [] => by simp
  | v :: vs, w :: vals => by
    rw [List.zip_cons_cons, List.map_cons]
    exact (zip_fst_sub vs vals).cons₂ v
theorem decode_good {vs vals : List Int} (nd : vs.Nodup) (n : Nat) : ∀ r ∈ pDecode vs n vals, GoodSel vs r := fun r hr => by
  obtain ⟨j, _, rfl⟩ := List.mem_map.mp hr
  unfold pSel
  refine sort_good nd ?_
  refine List.Sublist.trans (List.filter_sublist.map _) ?_
  exact zip_fst_sub vs vals
theorem decode_label {vs : List Int} (nd : vs.Nodup) {rows : List (List Int)} (hr : ∀ r ∈ rows, GoodSel vs r) : pDecode vs rows.length (vs.map fun v => pLabel v rows) = rows := by
  refine List.ext_getElem (decode_len _ _ _) fun j h1 h2 => ?_
  have g := hr _ (List.getElem_mem h2)
  have e : (pDecode vs rows.length (vs.map fun v => pLabel v rows))[j] = pSel vs (vs.map fun v => pLabel v rows) j := by simp only [pDecode, List.getElem_map, List.getElem_range]
  rw [e]
  have pm : ∀ v, v ∈ pSel vs (vs.map fun v => pLabel v rows) j ↔ v ∈ rows[j] := fun v => by
    by_cases hv : v ∈ vs
    · obtain ⟨i, hi, rfl⟩ := List.getElem_of_mem hv
      rw [mem_pSel nd (by simp) hi, List.getElem_map, bit_label _ rows j h2]
      unfold bit
      by_cases hm : vs[i] ∈ rows[j] <;> simp [hm]
    · refine ⟨fun h => absurd ?_ hv, fun h => absurd (g.1 v h) hv⟩
      exact (decode_good (vals := vs.map fun v => pLabel v rows) nd rows.length _ (List.mem_map.mpr ⟨j, List.mem_range.mpr h2, rfl⟩)).1 v h
  have s1 := (decode_good (vals := vs.map fun v => pLabel v rows) nd rows.length (pSel vs (vs.map fun v => pLabel v rows) j) (List.mem_map.mpr ⟨j, List.mem_range.mpr h2, rfl⟩)).2
  have s2 := g.2
  refine List.Perm.eq_of_pairwise (le := (· < ·)) (fun a b _ _ x y => by omega) s1 s2 ?_
  exact (List.perm_ext_iff_of_nodup (s1.imp fun h => by omega) (s2.imp fun h => by omega)).mpr pm
end BT
namespace BT
open PySem
/-! ## fewest moves; numbers of sets -/
theorem pBreaks_eq (vs tg : List Int) : pBreaks vs tg = ((List.range (tg.length - 1)).filter fun i => decide (Brk vs tg i)).map fun i : Nat => 1 + (i : Int) := rfl
/-- breaks ahead of a place -/
def cnt (vs tg : List Int) (p : Nat) : Nat := ((List.range p).filter fun i => decide (Brk vs tg i)).length
theorem cnt_s (vs tg : List Int) (p : Nat) : cnt vs tg (p + 1) = cnt vs tg p + if Brk vs tg p then 1 else 0 := by
  unfold cnt
  rw [List.range_succ, List.filter_append, List.length_append]
  by_cases h : Brk vs tg p <;> simp [h]
theorem cnt_mono (vs tg : List Int) {p q : Nat} (h : p ≤ q) : cnt vs tg p ≤ cnt vs tg q := by
  obtain ⟨d, rfl⟩ : ∃ d, q = p + d := ⟨q - p, by omega⟩
  clear h
  induction d with
  | zero => exact Nat.le_refl _
  | succ d ih => rw [show p + (d + 1) = p + d + 1 by omega, cnt_s]; omega
theorem breaks_cnt (vs tg : List Int) : (pBreaks vs tg).length = cnt vs tg (tg.length - 1) := by rw [pBreaks_eq, List.length_map]; rfl
theorem fit_low {vs tg : List Int} {f : Int → Int} (nd : tg.Nodup) (hm : ∀ v ∈ tg, v ∈ vs) (h : Fit vs f tg) : ∀ i (hi : i < tg.length), f (tg[0]'(by omega)) + (cnt vs tg i : Nat) ≤ f tg[i]
  | 0, hi => by simp [cnt]
  | i + 1, hi => by
    have ih := fit_low nd hm h i (by omega)
    obtain ⟨h1, h2⟩ := (fit_brk nd hm).mp h i hi
    rw [cnt_s]
    by_cases hb : Brk vs tg i
    · rw [if_pos hb]; have := h2 hb; omega
    · rw [if_neg hb]; omega
/-- labels by the parts of the target -/
theorem fit_parts {vs tg : List Int} (nd : tg.Nodup) (hm : ∀ v ∈ tg, v ∈ vs) (val : Nat → Int) (hv : ∀ i, i < (pBreaks vs tg).length → val i < val (i + 1)) : Fit vs (fun v => val (cnt vs tg (ix tg v))) tg := by
  rw [fit_brk nd hm]
  intro i hi
  have e1 : ix tg tg[i] = i := nd.idxOf_getElem i (by omega)
  have e2 : ix tg tg[i + 1] = i + 1 := nd.idxOf_getElem (i + 1) hi
  simp only [e1, e2]
  have hc := cnt_s vs tg i
  have hle : cnt vs tg (i + 1) ≤ (pBreaks vs tg).length := by rw [breaks_cnt]; exact cnt_mono vs tg (by omega)
  by_cases hb : Brk vs tg i
  · rw [if_pos hb] at hc
    have := hv (cnt vs tg i) (by omega)
    rw [hc]
    exact ⟨by omega, fun _ => this⟩
  · rw [if_neg hb] at hc
    rw [hc]
    exact ⟨Int.le_refl _, fun h => absurd h hb⟩
/-- moves of given labels lead to a target if the labels fit -/
theorem decode_after {vs tg : List Int} (nd : vs.Nodup) (hp : tg.Perm vs) {n : Nat} {f : Int → Int} (hf : ∀ v ∈ vs, 0 ≤ f v ∧ f v < 2 ^ n) : pAfter vs (pDecode vs n (vs.map f)) = tg ↔ Fit vs f tg := by
  have hl : ∀ v ∈ vs, pLabel v (pDecode vs n (vs.map f)) = f v := fun v hv => by
    obtain ⟨i, hi, rfl⟩ := List.getElem_of_mem hv
    rw [label_decode nd (by simp) (fun w hw => by obtain ⟨u, hu, rfl⟩ := List.mem_map.mp hw; exact hf u hu) hi, List.getElem_map]
  have hcg : Fit vs (fun v => pLabel v (pDecode vs n (vs.map f))) tg ↔ Fit vs f tg := by
    unfold Fit
    constructor
    · intro h
      refine h.imp_of_mem fun {a b} ha hb hab => ?_
      simp only [hl a (hp.mem_iff.mp ha), hl b (hp.mem_iff.mp hb)] at hab
      exact hab
    · intro h
      refine h.imp_of_mem fun {a b} ha hb hab => ?_
      simp only [hl a (hp.mem_iff.mp ha), hl b (hp.mem_iff.mp hb)]
      exact hab
  rw [after_iff nd, hcg]
  exact ⟨fun h => h.2, fun h => ⟨hp, h⟩⟩
theorem breaks_lt {vs : List Int} (nd : vs.Nodup) (h0 : vs ≠ []) (rows : List (List Int)) : (pBreaks vs (pAfter vs rows)).length < 2 ^ rows.length := by
  have hp := pAfter_perm vs rows
  have hf := ((after_iff (tg := pAfter vs rows) nd rows).mp rfl).2
  have nt : (pAfter vs rows).Nodup := hp.nodup_iff.mpr nd
  have hlen : 0 < (pAfter vs rows).length := by rw [hp.length_eq]; exact List.length_pos_iff.mpr h0
  have h := fit_low nt (perm_in hp) hf ((pAfter vs rows).length - 1) (by omega)
  have l1 := pLabel_lo ((pAfter vs rows)[0]) rows
  have l2 := pLabel_hi ((pAfter vs rows)[(pAfter vs rows).length - 1]) rows
  rw [breaks_cnt]
  have e : (2 : Int) ^ rows.length = ((2 ^ rows.length : Nat) : Int) := by simp
  rw [e] at l2
  omega
theorem fewest_le {vs : List Int} (nd : vs.Nodup) (h0 : vs ≠ []) (rows : List (List Int)) : mf (pBreaks vs (pAfter vs rows)).length ≤ rows.length := (mf_iff _ _).mp (breaks_lt nd h0 rows)
/-- a plan with n moves, n large enough -/
theorem plan_ex {vs tg : List Int} (nd : vs.Nodup) (hp : tg.Perm vs) {n : Nat} (hn : (pBreaks vs tg).length < 2 ^ n) : ∃ rows : List (List Int), rows.length = n ∧ (∀ r ∈ rows, GoodSel vs r) ∧ pAfter vs rows = tg := by
  have nt : tg.Nodup := hp.nodup_iff.mpr nd
  refine ⟨pDecode vs n (vs.map fun v => ((cnt vs tg (ix tg v) : Nat) : Int)), decode_len _ _ _, decode_good nd n, (decode_after nd hp fun v hv => ?_).mpr (fit_parts nt (perm_in hp) (fun i => (i : Int)) fun i _ => by omega)⟩
  have h1 : ix tg v < tg.length := List.idxOf_lt_length_of_mem (hp.mem_iff.mpr hv)
  have h2 : cnt vs tg (ix tg v) ≤ (pBreaks vs tg).length := by rw [breaks_cnt]; exact cnt_mono vs tg (by omega)
  have e : (2 : Int) ^ n = ((2 ^ n : Nat) : Int) := by simp
  rw [e]
  omega
/-- binomial numbers -/
def bin : Nat → Nat → Nat
  | _, 0 => 1
  | 0, _ + 1 => 0
  | n + 1, k + 1 => bin n k + bin n (k + 1)
theorem bin_0 (n : Nat) : bin n 0 = 1 := by cases n <;> rfl
theorem bin_mul : ∀ n k : Nat, (k + 1) * bin n (k + 1) + k * bin n k = n * bin n k
  | 0, 0 => rfl
  | 0, k + 1 => by simp [bin]
  | n + 1, 0 => by
    have := bin_mul n 0
    simp only [bin_0] at this ⊢
    simp only [bin, bin_0]
    omega
  | n + 1, k + 1 => by
    have h1 := bin_mul n (k + 1)
    have h2 := bin_mul n k
    simp only [bin]
    simp only [Nat.add_mul, Nat.mul_add, Nat.one_mul] at h1 h2 ⊢
    omega
theorem bin_big : ∀ {n k : Nat}, n < k → bin n k = 0
  | 0, k + 1, _ => rfl
  | n + 1, k + 1, h => by
    rw [bin, bin_big (show n < k by omega), bin_big (show n < k + 1 by omega)]
theorem bin_step {n k : Nat} (h : k ≤ n) : bin n k * (n - k) / (k + 1) = bin n (k + 1) := by
  have hm := bin_mul n k
  have e : bin n k * (n - k) = bin n (k + 1) * (k + 1) := by
    obtain ⟨d, rfl⟩ : ∃ d, n = k + d := ⟨n - k, by omega⟩
    rw [show k + d - k = d by omega, Nat.mul_comm (bin _ (k + 1)), Nat.mul_comm _ d]
    rw [Nat.add_mul k d] at hm
    omega
  rw [e, Nat.mul_div_cancel _ (by omega)]
theorem cnt_filter {vs tg : List Int} {a : Nat} (h : a ≤ tg.length - 1) : ((pBreaks vs tg).filter fun x => decide (x ≤ (a : Int))).length = cnt vs tg a := by
  obtain ⟨d, hd⟩ : ∃ d, tg.length - 1 = a + d := ⟨tg.length - 1 - a, by omega⟩
  rw [pBreaks_eq, hd, List.filter_map, List.length_map, List.filter_filter, List.range_add, List.filter_append, List.length_append]
  unfold cnt
  have e2 : (((List.range d).map fun x => a + x).filter fun i : Nat => ((fun x => decide (x ≤ (a : Int))) ∘ fun i : Nat => 1 + (i : Int)) i && decide (Brk vs tg i)) = [] := by
    refine List.filter_eq_nil_iff.mpr fun x hx => ?_
    obtain ⟨y, _, rfl⟩ := List.mem_map.mp hx
    simp
    omega
  rw [e2, List.length_nil, Nat.add_zero]
  congr 1
  refine List.filter_congr fun i hi => ?_
  have := List.mem_range.mp hi
  have h1 : decide (1 + (i : Int) ≤ (a : Int)) = true := decide_eq_true (by omega)
  simp only [Function.comp, h1, Bool.true_and]
theorem map_set {vs : List Int} (nd : vs.Nodup) {w : Int} (hw : w ∈ vs) (f : Int → D) (x : D) : (vs.map f).set (ix vs w) x = vs.map fun v => if v = w then x else f v := by
  refine List.ext_getElem (by simp) fun i h1 h2 => ?_
  have hi : i < vs.length := by simpa using h2
  rw [List.getElem_set, List.getElem_map, List.getElem_map]
  by_cases h : ix vs w = i
  · subst h
    rw [if_pos rfl, if_pos (List.getElem_idxOf _)]
  · rw [if_neg h, if_neg fun e => h ?_]
    rw [← e]
    exact nd.idxOf_getElem i hi
theorem max_le' {b : Int} : ∀ {ns : List Int}, ns ≠ [] → (∀ x ∈ ns, x ≤ b) → ∃ m, maxI ns = some m ∧ m ≤ b
  | x :: xs, _, h => by
    refine ⟨_, rfl, ?_⟩
    have hx := h x List.mem_cons_self
    have hxs : ∀ y ∈ xs, y ≤ b := fun y hy => h y (List.mem_cons_of_mem _ hy)
    clear h
    induction xs generalizing x with
    | nil => exact hx
    | cons y ys ih =>
      rw [List.foldl_cons]
      refine ih (if y > x then y else x) (by simp) ?_ fun z hz => hxs z (List.mem_cons_of_mem _ hz)
      have := hxs y List.mem_cons_self
      split <;> omega
end BT
namespace BT
open PySem
section
variable {T : Tab} {k : Nat}
theorem mul_small {i j : Int} (h : j.natAbs < 18446744073709551616) : mulOk i j = true := by unfold mulOk; simp [h]
theorem mul_small' {i j : Int} (h : i.natAbs < 18446744073709551616) : mulOk i j = true := by unfold mulOk; simp [h]
theorem choose_ok (B : Base T) (hk : 1 ≤ k) (n m : Nat) (hn : n < 10000000000) (hm : m ≤ 1000) : callk T k "choose" [.int n, .int m] .none = .ok (.int (bin n m)) .none := by
  refine wC_is (wC_runk (by omega) (B.ext _ _ tt_choose) rfl fun j hj => ?_)
  by_cases h : n < m
  · simp [f_choose, b_choose, -List.map_map, -List.any_map, -List.all_map, h, bin_big h]
  · have h' : ¬ ((n : Int) < (m : Int)) := by omega
    have sm : smallI m = true := decide_eq_true (show _ ∧ _ by omega)
    simp [f_choose, b_choose, -List.map_map, -List.any_map, -List.all_map, h, sm]
    refine for_h (fun i e => ∃ t, e = [.val (.int n), .val (.int m), .val (.int (bin n i : Nat)), t]) ⟨_, by simp [bin_0]; rfl⟩ ?_ ?_
    · rintro i hi e ⟨t, rfl⟩
      have hi : i < m := by simpa [rngL] using hi
      have st := bin_step (n := n) (k := i) (by omega)
      have mo : mulOk (bin n i : Nat) ((n : Int) - (i : Int)) = true := mul_small (by omega)
      have dv : dvOk ((i : Int) + 1) = true := dv_small (by omega) (by omega)
      have p0 : (0 : Int) < (i : Int) + 1 := by omega
      have e1 : ((bin n i : Nat) : Int) * ((n : Int) - (i : Int)) / ((i : Int) + 1) = ((bin n (i + 1) : Nat) : Int) := by
        rw [← st, Int.natCast_ediv, Int.natCast_mul, Int.ofNat_sub (by omega)]; rfl
      simp [turnS, rngL, -List.map_map, -List.any_map, -List.all_map, b_choose_L1, mo, dv, p0, e1]
      exact .i ⟨_, rfl⟩
    · rintro e ⟨t, rfl⟩
      simp [-List.map_map, -List.any_map, -List.all_map, rngL]
end
end BT
namespace BT
open PySem
section
variable {C : Calls} {R : Fl → Env → Prop} {e : Env} {t : IE} {b : ISs}
/-- a while loop that ends at the latest after N turns -/
theorem while_i (I : Nat → Env → Prop) (N : Nat) (hN : N < fuel) (h0 : I 0 e) (h : ∀ r e, I r e → wpE C t e fun d e1 => (d = .bool true ∧ r < N ∧ wpS C b e1 fun f e2 => f = .next ∧ Hd (I (r + 1)) ⟨⟩ e2) ∨ (d = .bool false ∧ R .next e1)) : wpWh C t b e R := by
  have gen : ∀ (m r k : Nat) (e : Env), r + m = N → m < k → I r e → wR (whileGo (ev C t) (execs C b) k e) R := by
    intro m
    induction m with
    | zero =>
      intro r k e hr hk he
      obtain ⟨k, rfl⟩ : ∃ j, k = j + 1 := ⟨k - 1, by omega⟩
      obtain ⟨d, e1, h1, h2⟩ := wR_ex.mp (h r e he)
      rcases h2 with ⟨_, h2, _⟩ | ⟨rfl, h2⟩
      · omega
      · unfold whileGo
        rw [h1]
        exact h2
    | succ m ih =>
      intro r k e hr hk he
      obtain ⟨k, rfl⟩ : ∃ j, k = j + 1 := ⟨k - 1, by omega⟩
      obtain ⟨d, e1, h1, h2⟩ := wR_ex.mp (h r e he)
      rcases h2 with ⟨rfl, _, h2⟩ | ⟨rfl, h2⟩
      · obtain ⟨f, e2, h3, rfl, h4⟩ := wR_ex.mp h2
        unfold whileGo
        rw [h1]
        simp only [h3]
        exact ih (r + 1) k e2 (by omega) (by omega) h4
      · unfold whileGo
        rw [h1]
        exact h2
  exact gen N 0 fuel e (by omega) hN h0
end
/-! ## dicts with lists of whole numbers as keys -/
abbrev kvT (l : List (List Int × Int)) : List (D × D) := l.map fun p => (iT p.1, PyData.int p.2)
theorem eqv_T (a b : List Int) : PyData.eqv (iT a) (iT b) = decide (a = b) := by unfold PyData.eqv; exact eqv_ints a b
theorem keyN_ints (n : Nat) (k : List Int) : keyN (n + 1) (iT k) = true := by
  show (k.map PyData.int).all (keyN n) = true
  rw [List.all_eq_true]
  intro x hx
  obtain ⟨v, _, rfl⟩ := List.mem_map.mp hx
  cases n <;> rfl
theorem kOk_T (l : List (List Int × Int)) (k : List Int) : kOk (kvT l) (iT k) = true := by
  unfold kOk
  rw [keyN_ints 7 k]
  cases l with
  | nil => rfl
  | cons p l => rfl
def lkT : List (List Int × Int) → List Int → Option Int
  | [], _ => none
  | p :: l, k => if p.1 = k then some p.2 else lkT l k
def stT : List (List Int × Int) → List Int → Int → List (List Int × Int)
  | [], k, v => [(k, v)]
  | p :: l, k, v => if p.1 = k then (p.1, v) :: l else p :: stT l k v
theorem dlook_T : ∀ (l : List (List Int × Int)) (k : List Int), dlook (kvT l) (iT k) = (lkT l k).map PyData.int
  | [], _ => rfl
  | p :: l, k => by
    show (if PyData.eqv (iT p.1) (iT k) then some (PyData.int p.2) else dlook (kvT l) (iT k)) = _
    rw [eqv_T, dlook_T l k]
    show _ = (if p.1 = k then some p.2 else lkT l k).map PyData.int
    by_cases h : p.1 = k <;> simp [h]
theorem dstore_T : ∀ (l : List (List Int × Int)) (k : List Int) (v : Int), dstore (kvT l) (iT k) (.int v) = kvT (stT l k v)
  | [], _, _ => rfl
  | p :: l, k, v => by
    show (if PyData.eqv (iT p.1) (iT k) then (iT p.1, PyData.int v) :: kvT l else (iT p.1, PyData.int p.2) :: dstore (kvT l) (iT k) (.int v)) = _
    rw [eqv_T, dstore_T l k v]
    show _ = kvT (if p.1 = k then (p.1, v) :: l else p :: stT l k v)
    by_cases h : p.1 = k <;> simp [h]
theorem stT_new : ∀ {l : List (List Int × Int)} {k : List Int}, lkT l k = none → ∀ v, stT l k v = l ++ [(k, v)]
  | [], _, _, _ => rfl
  | p :: l, k, h, v => by
    unfold lkT at h
    by_cases hp : p.1 = k
    · rw [if_pos hp] at h; cases h
    · rw [if_neg hp] at h
      unfold stT
      rw [if_neg hp, stT_new h v]; rfl
theorem lkT_mem : ∀ {l : List (List Int × Int)} {k : List Int} {v : Int}, lkT l k = some v → (k, v) ∈ l
  | p :: l, k, v, h => by
    unfold lkT at h
    by_cases hp : p.1 = k
    · rw [if_pos hp] at h
      cases h
      subst hp
      exact List.mem_cons_self
    · rw [if_neg hp] at h
      exact List.mem_cons_of_mem _ (lkT_mem h)
theorem lkT_none : ∀ {l : List (List Int × Int)} {k : List Int}, lkT l k = none ↔ ∀ p ∈ l, p.1 ≠ k
  | [], _ => by simp [lkT]
  | p :: l, k => by
    unfold lkT
    by_cases hp : p.1 = k
    · rw [if_pos hp]
      exact ⟨(fun h => nomatch h), fun h => absurd hp (h p List.mem_cons_self)⟩
    · rw [if_neg hp, lkT_none]
      exact ⟨fun h q hq => (List.mem_cons.mp hq).elim (fun e => by rw [e]; exact hp) (fun hq => h q hq), fun h q hq => h q (List.mem_cons_of_mem _ hq)⟩
theorem in_T (l : List (List Int × Int)) (k : List Int) : din (iT k) (.dict (kvT l)) = some (lkT l k).isSome := by
  rw [di_d, if_pos (kOk_T l k), dlook_T, Option.isSome_map]
theorem ix_T (l : List (List Int × Int)) (k : List Int) : dix (.dict (kvT l)) (iT k) = (lkT l k).map PyData.int := by
  rw [dx_d, if_pos (kOk_T l k), dlook_T]
end BT
namespace BT
open PySem
section
variable {C : Calls} {R : Fl → Env → Prop}
/-- a loop told by what is behind it already -/
theorem for_pre {α : Type} {t : Tg} {b : ISs} {enc : α → D} (I : List α → Env → Prop) {l : List α} {e : Env} (h0 : I [] e) (h : ∀ pre a post, l = pre ++ a :: post → ∀ e, I pre e → turnS C t b (enc a) e fun fl e2 => fl = .next ∧ Hd (I (pre ++ [a])) ⟨⟩ e2) (fin : ∀ e, I l e → R .next e) : wpFor C t b (l.map enc) e R := by
  have gen : ∀ (post pre : List α) (e : Env), l = pre ++ post → I pre e → wpFor C t b (post.map enc) e R := by
    intro post
    induction post with
    | nil =>
      intro pre e hl hi
      rw [List.append_nil] at hl
      subst hl
      exact fin e hi
    | cons a post ih =>
      intro pre e hl hi
      obtain ⟨e1, h1, h2⟩ := h pre a post hl e hi
      obtain ⟨fl, e2, h3, rfl, h4⟩ := wR_ex.mp h2
      unfold wpFor
      rw [List.map_cons]
      unfold forGo
      rw [h1]
      simp only [h3]
      exact ih (pre ++ [a]) e2 (by rw [hl, List.append_assoc]; rfl) h4
  exact gen l [] e rfl h0
end
theorem plain_rows : ∀ rows : List (List Int), PyData.plainAll (rows.map iT) = true
  | [] => rfl
  | r :: rows => by simp [PyData.plainAll, PyData.plain, plain_rows rows, plain_ints r]
theorem depth_rows : ∀ rows : List (List Int), PyData.depthAll (rows.map iT) ≤ 2
  | [] => by simp [PyData.depthAll]
  | r :: rows => by
    have := depth_rows rows
    have := depth_ints r
    simp [PyData.depthAll, PyData.depth]
    try omega
theorem eqOk_rows (rows : List (List Int)) : eqOk (rows.map iT) := ⟨plain_rows rows, Nat.le_trans (depth_rows rows) (by decide)⟩
theorem eqv_rows : ∀ vs ws : List (List Int), PyData.eqvAll (vs.map iT) (ws.map iT) = decide (vs = ws)
  | [], [] => by simp [PyData.eqvAll]
  | [], w :: ws => by simp [PyData.eqvAll]
  | v :: vs, [] => by simp [PyData.eqvAll]
  | v :: vs, w :: ws => by
    rw [List.map_cons, List.map_cons]
    unfold PyData.eqvAll
    rw [eqv_rows vs ws, eqv_T]
    simp
theorem rows_eq_l (vs ws : List (List Int)) : dcmp .Eq (.list (vs.map iT)) (.list (ws.map iT)) = some (decide (vs = ws)) := by
  have h : okEq (.list (vs.map iT)) (.list (ws.map iT)) = true := by
    have a := plain_rows vs; have b := plain_rows ws; have c := depth_rows vs; have d := depth_rows ws
    simp [okEq, PyData.plain, PyData.depth, a, b]; omega
  rw [dc_eq, h, if_pos rfl]; unfold PyData.eqv; rw [eqv_rows]
theorem rows_eq_t (vs ws : List (List Int)) : dcmp .Eq (rT vs) (rT ws) = some (decide (vs = ws)) := by
  have h : okEq (rT vs) (rT ws) = true := by
    have a := plain_rows vs; have b := plain_rows ws; have c := depth_rows vs; have d := depth_rows ws
    simp [okEq, PyData.plain, PyData.depth, a, b]; omega
  rw [dc_eq, h, if_pos rfl]; unfold PyData.eqv; rw [eqv_rows]
theorem cut_m1 {xs : List D} {x : D} : cutD (xs ++ [x]) none (some (-1)) = xs := by
  have e : sIx (xs ++ [x]).length (xs ++ [x]).length (some (-1)) = xs.length := by
    show (if (0 : Int) ≤ -1 then min (-1 : Int).toNat (xs ++ [x]).length else ((-1 : Int) + ((xs ++ [x]).length : Nat)).toNat) = _
    rw [if_neg (by omega), List.length_append, List.length_singleton]
    omega
  show ((xs ++ [x]).drop 0).take (sIx (xs ++ [x]).length (xs ++ [x]).length (some (-1)) - 0) = xs
  rw [e]
  simp
end BT
namespace BT
open PySem
/-! ## fewest moves, step by step -/
def lev (vs t : List Int) : Nat := mf (pBreaks vs t).length
theorem after_app (vs : List Int) (a b : List (List Int)) : pAfter vs (a ++ b) = pAfter (pAfter vs a) b := by unfold pAfter; rw [List.foldl_append]
theorem lev_plan {vs t : List Int} (nd : vs.Nodup) (hp : t.Perm vs) {n : Nat} (h : lev vs t ≤ n) : ∃ rows : List (List Int), rows.length = n ∧ (∀ r ∈ rows, GoodSel vs r) ∧ pAfter vs rows = t := plan_ex nd hp ((mf_iff _ _).mpr h)
theorem lev_move {vs t : List Int} (nd : vs.Nodup) (h0 : vs ≠ []) (hp : t.Perm vs) (sel : List Int) : lev vs (pMoved t sel) ≤ lev vs t + 1 := by
  obtain ⟨rows, hl, _, ha⟩ := lev_plan nd hp (Nat.le_refl _)
  have := fewest_le nd h0 (rows ++ [sel])
  rw [after_app, ha] at this
  have e : pAfter t [sel] = pMoved t sel := rfl
  rw [e] at this
  unfold lev
  rw [List.length_append, hl] at this
  exact this
theorem lev_prev {vs t : List Int} (nd : vs.Nodup) (h0 : vs ≠ []) (hp : t.Perm vs) {r : Nat} (h : lev vs t = r + 1) : ∃ one sel, one.Perm vs ∧ lev vs one = r ∧ GoodSel vs sel ∧ pMoved one sel = t := by
  obtain ⟨rows, hl, hg, ha⟩ := lev_plan nd hp (Nat.le_refl _)
  rw [h] at hl
  have hne : rows ≠ [] := by intro e; rw [e] at hl; cases hl
  refine ⟨pAfter vs rows.dropLast, rows.getLast hne, pAfter_perm _ _, ?_, hg _ (List.getLast_mem hne), ?_⟩
  · have h1 := fewest_le nd h0 rows.dropLast
    rw [List.length_dropLast, hl] at h1
    have h2 := lev_move nd h0 (pAfter_perm vs rows.dropLast) (rows.getLast hne)
    have e : pMoved (pAfter vs rows.dropLast) (rows.getLast hne) = t := by
      have := after_app vs rows.dropLast [rows.getLast hne]
      rw [List.dropLast_concat_getLast, ha] at this
      exact this.symm
    rw [e, h] at h2
    unfold lev at h2 ⊢
    omega
  · have := after_app vs rows.dropLast [rows.getLast hne]
    rw [List.dropLast_concat_getLast, ha] at this
    exact this.symm
end BT
namespace BT
open PySem
/-! ## all ascending selections -/
def subs : List Int → List (List Int)
  | [] => [[]]
  | x :: l => subs l ++ (subs l).map fun s => x :: s
/-- as the laws build them: item after item -/
def grow (acc : List (List Int)) (x : Int) : List (List Int) := acc ++ acc.map fun s => s ++ [x]
def allSel (l : List Int) : List (List Int) := l.foldl grow [[]]
theorem grow_mem {acc : List (List Int)} {x : Int} {s : List Int} : s ∈ grow acc x ↔ s ∈ acc ∨ ∃ q ∈ acc, s = q ++ [x] := by
  unfold grow
  rw [List.mem_append, List.mem_map]
  exact ⟨fun h => h.imp id fun ⟨q, hq, e⟩ => ⟨q, hq, e.symm⟩, fun h => h.imp id fun ⟨q, hq, e⟩ => ⟨q, hq, e.symm⟩⟩
theorem allSel_mem : ∀ (l : List Int) (acc : List (List Int)) (a s : List Int), a ∈ acc → s.Sublist l → a ++ s ∈ l.foldl grow acc
  | [], acc, a, s, ha, hs => by
    have : s = [] := List.sublist_nil.mp hs
    subst this
    simpa using ha
  | x :: l, acc, a, s, ha, hs => by
    rw [List.foldl_cons]
    cases hs with
    | cons _ h => exact allSel_mem l _ a s (grow_mem.mpr (.inl ha)) h
    | cons_cons _ h =>
      rename_i s'
      have := allSel_mem l (grow acc x) (a ++ [x]) s' (grow_mem.mpr (.inr ⟨a, ha, rfl⟩)) h
      rwa [List.append_assoc] at this
end BT
namespace BT
open PySem
theorem grow_len (acc : List (List Int)) (x : Int) : (grow acc x).length = 2 * acc.length := by unfold grow; rw [List.length_append, List.length_map]; omega
theorem allSel_len : ∀ (l : List Int) (acc : List (List Int)), (l.foldl grow acc).length = 2 ^ l.length * acc.length
  | [], acc => by simp
  | x :: l, acc => by rw [List.foldl_cons, allSel_len l, grow_len, List.length_cons, Nat.pow_succ, Nat.mul_assoc]
/-- a strictly ascending list inside another -/
theorem asc_sub : ∀ {l s : List Int}, l.Pairwise (· < ·) → s.Pairwise (· < ·) → (∀ v ∈ s, v ∈ l) → s.Sublist l
  | l, [], _, _, _ => List.nil_sublist l
  | [], y :: s, _, _, h => by simpa using h y
  | x :: l, y :: s, hl, hs, h => by
    obtain ⟨h1, h2⟩ := List.pairwise_cons.mp hl
    obtain ⟨h3, h4⟩ := List.pairwise_cons.mp hs
    by_cases e : y = x
    · subst e
      refine (asc_sub h2 h4 fun v hv => ?_).cons₂ y
      rcases List.mem_cons.mp (h v (List.mem_cons_of_mem _ hv)) with rfl | z
      · exact absurd (h3 v hv) (by omega)
      · exact z
    · refine (asc_sub h2 hs fun v hv => ?_).cons x
      rcases List.mem_cons.mp (h v hv) with rfl | z
      · have hy : y ∈ l := by
          rcases List.mem_cons.mp (h y List.mem_cons_self) with z | z
          · exact absurd z e
          · exact z
        have := h1 y hy
        rcases List.mem_cons.mp hv with z | z
        · exact absurd z.symm e
        · have := h3 v z; omega
      · exact z
theorem sortI_lt {vs : List Int} (nd : vs.Nodup) : (sortI vs).Pairwise (· < ·) := (sort_good nd (List.Sublist.refl vs)).2
theorem good_allSel {vs s : List Int} (nd : vs.Nodup) (h : GoodSel vs s) : s ∈ allSel (sortI vs) := by
  have := allSel_mem (sortI vs) [[]] [] s (by simp) (asc_sub (sortI_lt nd) h.2 fun v hv => (sortI_perm vs).mem_iff.mpr (h.1 v hv))
  simpa [allSel] using this
theorem allSel_sub : ∀ (l : List Int) (acc : List (List Int)) (pre : List Int), (∀ s ∈ acc, s.Sublist pre) → ∀ s ∈ l.foldl grow acc, s.Sublist (pre ++ l)
  | [], acc, pre, h, s, hs => by simpa using h s hs
  | x :: l, acc, pre, h, s, hs => by
    rw [List.foldl_cons] at hs
    have := allSel_sub l (grow acc x) (pre ++ [x]) (fun t ht => by
      rcases grow_mem.mp ht with ht | ⟨q, hq, rfl⟩
      · exact (h t ht).trans (List.sublist_append_left _ _)
      · exact (h q hq).append (List.Sublist.refl _)) s hs
    rwa [List.append_assoc] at this
theorem allSel_good {vs s : List Int} (nd : vs.Nodup) (h : s ∈ allSel (sortI vs)) : GoodSel vs s := by
  have hs : s.Sublist (sortI vs) := by simpa using allSel_sub (sortI vs) [[]] [] (by simp) s h
  exact ⟨fun v hv => (sortI_perm vs).mem_iff.mp (hs.subset hv), (sortI_lt nd).sublist hs⟩
/-- as many as there can be -/
theorem nodup_le {α : Type} [DecidableEq α] : ∀ {l m : List α}, l.Nodup → (∀ x ∈ l, x ∈ m) → l.length ≤ m.length
  | [], _, _, _ => Nat.zero_le _
  | x :: l, m, nd, h => by
    obtain ⟨h1, h2⟩ := List.nodup_cons.mp nd
    have hx := h x List.mem_cons_self
    have := nodup_le (m := m.erase x) h2 fun y hy => (List.mem_erase_of_ne (fun e => h1 (by rw [← e]; exact hy))).mpr (h y (List.mem_cons_of_mem _ hy))
    rw [List.length_erase_of_mem hx] at this
    have := List.length_pos_of_mem hx
    simp only [List.length_cons]; omega
def tups (vs : List Int) : Nat → List (List Int)
  | 0 => [[]]
  | n + 1 => vs.flatMap fun v => (tups vs n).map (v :: ·)
theorem tups_len (vs : List Int) : ∀ n, (tups vs n).length = vs.length ^ n
  | 0 => rfl
  | n + 1 => by
    unfold tups
    rw [List.length_flatMap]
    simp only [List.length_map, tups_len vs n]
    rw [List.map_const', List.sum_replicate_nat, Nat.pow_succ, Nat.mul_comm]
theorem tups_mem {vs : List Int} : ∀ {t : List Int}, (∀ v ∈ t, v ∈ vs) → t ∈ tups vs t.length
  | [], _ => by simp [tups]
  | x :: t, h => by
    unfold tups
    rw [List.length_cons]
    exact List.mem_flatMap.mpr ⟨x, h x List.mem_cons_self, List.mem_map.mpr ⟨t, tups_mem fun v hv => h v (List.mem_cons_of_mem _ hv), rfl⟩⟩
theorem perms_le {vs : List Int} {ls : List (List Int)} (nd : ls.Nodup) (h : ∀ t ∈ ls, t.Perm vs) : ls.length ≤ vs.length ^ vs.length := by
  rw [← tups_len vs vs.length]
  refine nodup_le nd fun t ht => ?_
  have hp := h t ht
  rw [← hp.length_eq]
  exact tups_mem fun v hv => hp.mem_iff.mp hv
theorem lev_le {vs t : List Int} (hp : t.Perm vs) : lev vs t ≤ vs.length := by
  refine (mf_iff _ _).mp (Nat.lt_of_le_of_lt (pBreaks_len vs t) ?_)
  rw [hp.length_eq]
  exact Nat.lt_of_le_of_lt (Nat.sub_le _ _) Nat.lt_two_pow_self
end BT
namespace BT
open PySem
/-! ## least costs -/
/-- how many of the n lowest digits are 0 -/
def zer (l n : Nat) : Nat := ((List.range n).filter fun j => decide (l / 2 ^ j % 2 = 0)).length
theorem zer_0 (l : Nat) : zer l 0 = 0 := rfl
theorem zer_s (l n : Nat) : zer l (n + 1) = zer l n + (if l / 2 ^ n % 2 = 0 then 1 else 0) := by
  unfold zer
  rw [List.range_succ, List.filter_append, List.length_append]
  by_cases h : l / 2 ^ n % 2 = 0 <;> simp [h]
theorem zer_lo {l n : Nat} (h : l < 2 ^ n) : zer l (n + 1) = zer l n + 1 := by
  rw [zer_s, Nat.div_eq_of_lt h]; rfl
theorem zer_hi {l n : Nat} (h : 2 ^ n ≤ l) (h2 : l < 2 ^ (n + 1)) : zer l (n + 1) = zer (l - 2 ^ n) n := by
  have e1 : l / 2 ^ n = 1 := by
    refine Nat.div_eq_of_lt_le (by omega) ?_
    rw [Nat.pow_succ] at h2; omega
  rw [zer_s, e1]
  show zer l n + 0 = _
  rw [Nat.add_zero]
  unfold zer
  congr 1
  refine List.filter_congr fun j hj => ?_
  have hj := List.mem_range.mp hj
  obtain ⟨d, rfl⟩ : ∃ d, n = j + 1 + d := ⟨n - j - 1, by omega⟩
  have e2 : l / 2 ^ j = (l - 2 ^ (j + 1 + d)) / 2 ^ j + 2 * 2 ^ d := by
    have e3 : 2 ^ (j + 1 + d) = 2 ^ j * (2 * 2 ^ d) := by rw [Nat.pow_add, Nat.pow_add]; simp [Nat.mul_assoc]
    have : l = (l - 2 ^ (j + 1 + d)) + 2 ^ j * (2 * 2 ^ d) := by omega
    conv => lhs; rw [this]
    rw [Nat.add_mul_div_left _ _ (Nat.two_pow_pos j)]
  rw [e2]
  congr 1
  apply propext
  omega
theorem zer_le (l n : Nat) : zer l n ≤ n := by
  unfold zer
  exact Nat.le_trans (List.length_filter_le _ _) (by rw [List.length_range]; exact Nat.le_refl _)
/-- sums -/
def pS (g : Nat → Int) : Nat → Int
  | 0 => 0
  | n + 1 => pS g n + g n
theorem pS_s (g : Nat → Int) (n : Nat) : pS g (n + 1) = pS g n + g n := rfl
theorem pS_congr {g h : Nat → Int} {a : Nat} : ∀ {b : Nat}, a ≤ b → (∀ i, a ≤ i → i < b → g i = h i) → pS g b - pS g a = pS h b - pS h a := by
  intro b
  induction b with
  | zero => intro h _; have : a = 0 := by omega
            subst this; omega
  | succ b ih =>
    intro hab he
    by_cases e : a = b + 1
    · subst e; omega
    · have := ih (by omega) fun i h1 h2 => he i h1 (by omega)
      have := he b (by omega) (by omega)
      rw [pS_s, pS_s]
      omega
theorem pS_add (g h : Nat → Int) : ∀ n, pS (fun i => g i + h i) n = pS g n + pS h n
  | 0 => rfl
  | n + 1 => by rw [pS_s, pS_s, pS_s, pS_add g h n]; omega
theorem pS_zero : ∀ n, pS (fun _ => 0) n = 0
  | 0 => rfl
  | n + 1 => by rw [pS_s, pS_zero n]; rfl
theorem pS_mono {g : Nat → Int} {a : Nat} : ∀ {b : Nat}, a ≤ b → (∀ i, a ≤ i → i < b → 0 ≤ g i) → pS g a ≤ pS g b := by
  intro b
  induction b with
  | zero => intro h _; have : a = 0 := by omega
            subst this; omega
  | succ b ih =>
    intro hab he
    by_cases e : a = b + 1
    · subst e; omega
    · have := ih (by omega) fun i h1 h2 => he i h1 (by omega)
      have := he b (by omega) (by omega)
      show _ ≤ pS g b + g b
      omega
theorem pS_le {g h : Nat → Int} {a : Nat} : ∀ {b : Nat}, a ≤ b → (∀ i, a ≤ i → i < b → g i ≤ h i) → pS g b - pS g a ≤ pS h b - pS h a := by
  intro b
  induction b with
  | zero => intro h _; have : a = 0 := by omega
            subst this; omega
  | succ b ih =>
    intro hab he
    by_cases e : a = b + 1
    · subst e; omega
    · have := ih (by omega) fun i h1 h2 => he i h1 (by omega)
      have := he b (by omega) (by omega)
      rw [pS_s, pS_s]
      omega
/-- the cost of labels on a range of the target -/
def cst (w : Nat → Int) (f : Nat → Nat) (n a b : Nat) : Int := pS (fun i => w i * (zer (f i) n : Nat)) b - pS (fun i => w i * (zer (f i) n : Nat)) a
theorem cst_split (w : Nat → Int) (f : Nat → Nat) (n a m b : Nat) : cst w f n a b = cst w f n a m + cst w f n m b := by unfold cst; omega
theorem cst_congr {w : Nat → Int} {f g : Nat → Nat} {n a b : Nat} (hab : a ≤ b) (h : ∀ i, a ≤ i → i < b → zer (f i) n = zer (g i) n) : cst w f n a b = cst w g n a b := pS_congr hab fun i h1 h2 => by rw [h i h1 h2]
theorem cst_0 (w : Nat → Int) (f : Nat → Nat) {a b : Nat} (hab : a ≤ b) : cst w f 0 a b = 0 := by
  have := pS_congr (g := fun i => w i * (zer (f i) 0 : Nat)) (h := fun _ => 0) hab fun i _ _ => by rw [zer_0]; simp
  unfold cst
  rw [this, pS_zero, pS_zero]; rfl
theorem cst_lo {w : Nat → Int} {f : Nat → Nat} {n a b : Nat} (hab : a ≤ b) (h : ∀ i, a ≤ i → i < b → f i < 2 ^ n) : cst w f (n + 1) a b = cst w f n a b + (pS w b - pS w a) := by
  have := pS_congr (g := fun i => w i * (zer (f i) (n + 1) : Nat)) (h := fun i => w i * (zer (f i) n : Nat) + w i) hab fun i h1 h2 => by
    rw [zer_lo (h i h1 h2), Int.natCast_add, Int.mul_add]; simp
  unfold cst
  rw [this, pS_add, pS_add]; omega
theorem cst_hi {w : Nat → Int} {f : Nat → Nat} {n a b : Nat} (hab : a ≤ b) (h : ∀ i, a ≤ i → i < b → 2 ^ n ≤ f i ∧ f i < 2 ^ (n + 1)) : cst w f (n + 1) a b = cst w (fun i => f i - 2 ^ n) n a b :=
  pS_congr hab fun i h1 h2 => by rw [zer_hi (h i h1 h2).1 (h i h1 h2).2]
/-- labels that fit a range: br i says of a break between i and i + 1 -/
def FitR (br : Nat → Prop) (f : Nat → Nat) (n a b : Nat) : Prop := (∀ i, a ≤ i → i < b → f i < 2 ^ n) ∧ ∀ i, a ≤ i → i + 1 < b → f i ≤ f (i + 1) ∧ (br i → f i < f (i + 1))
def Cln (br : Nat → Prop) (a b : Nat) : Prop := ∀ i, a ≤ i → i + 1 < b → ¬ br i
theorem split_ex {f : Nat → Nat} (t : Nat) {a : Nat} : ∀ {b : Nat}, a ≤ b → (∀ i, a ≤ i → i + 1 < b → f i ≤ f (i + 1)) → ∃ m, a ≤ m ∧ m ≤ b ∧ (∀ i, a ≤ i → i < m → f i < t) ∧ ∀ i, m ≤ i → i < b → t ≤ f i := by
  intro b
  induction b with
  | zero => intro h _; exact ⟨0, h, by omega, by omega, by omega⟩
  | succ b ih =>
    intro hab hm
    by_cases e : a = b + 1
    · exact ⟨a, by omega, by omega, by omega, by omega⟩
    · obtain ⟨m, h1, h2, h3, h4⟩ := ih (by omega) fun i g1 g2 => hm i g1 (by omega)
      by_cases hb : f b < t
      · have : m = b := by
          refine Classical.byContradiction fun hne => ?_
          have h5 := h4 (b - 1) (by omega) (by omega)
          have h6 := hm (b - 1) (by omega) (by omega)
          rw [show b - 1 + 1 = b by omega] at h6
          omega
        subst this
        refine ⟨m + 1, by omega, by omega, fun i g1 g2 => ?_, by omega⟩
        by_cases e2 : i = m
        · subst e2; exact hb
        · exact h3 i g1 (by omega)
      · refine ⟨m, h1, by omega, h3, fun i g1 g2 => ?_⟩
        by_cases e2 : i = b
        · subst e2; omega
        · exact h4 i g1 (by omega)
/-- the least of pairs -/
def minP : List (Int × Nat) → Option (Int × Nat)
  | [] => none
  | x :: xs => some (xs.foldl (fun a y => if y.1 < a.1 ∨ (y.1 = a.1 ∧ y.2 < a.2) then y else a) x)
theorem foldP : ∀ (xs : List (Int × Nat)) (x : Int × Nat), xs.foldl (fun a y => if y.1 < a.1 ∨ (y.1 = a.1 ∧ y.2 < a.2) then y else a) x ∈ x :: xs ∧ ∀ y ∈ x :: xs, (xs.foldl (fun a y => if y.1 < a.1 ∨ (y.1 = a.1 ∧ y.2 < a.2) then y else a) x).1 ≤ y.1
  | [], x => ⟨List.mem_cons_self, fun y h => by simp at h; subst h; exact Int.le_refl _⟩
  | y :: ys, x => by
    rw [List.foldl_cons]
    have a1 : (if y.1 < x.1 ∨ (y.1 = x.1 ∧ y.2 < x.2) then y else x).1 ≤ x.1 := by split <;> omega
    have a2 : (if y.1 < x.1 ∨ (y.1 = x.1 ∧ y.2 < x.2) then y else x).1 ≤ y.1 := by split <;> omega
    have a3 : (if y.1 < x.1 ∨ (y.1 = x.1 ∧ y.2 < x.2) then y else x) ∈ x :: y :: ys := by split <;> simp
    generalize (if y.1 < x.1 ∨ (y.1 = x.1 ∧ y.2 < x.2) then y else x) = m at a1 a2 a3
    obtain ⟨h1, h2⟩ := foldP ys m
    have h3 := h2 _ List.mem_cons_self
    refine ⟨?_, fun z hz => ?_⟩
    · rcases List.mem_cons.mp h1 with e | h1
      · rw [e]; exact a3
      · exact List.mem_cons_of_mem _ (List.mem_cons_of_mem _ h1)
    · rcases List.mem_cons.mp hz with rfl | hz
      · exact Int.le_trans h3 a1
      · rcases List.mem_cons.mp hz with rfl | hz
        · exact Int.le_trans h3 a2
        · exact h2 z (List.mem_cons_of_mem _ hz)
theorem minP_le {l : List (Int × Nat)} {y : Int × Nat} (h : y ∈ l) : ∃ x, minP l = some x ∧ x.1 ≤ y.1 := by
  cases l with
  | nil => cases h
  | cons x xs => exact ⟨_, rfl, (foldP xs x).2 y h⟩
theorem minP_mem {l : List (Int × Nat)} {x : Int × Nat} (h : minP l = some x) : x ∈ l := by
  cases l with
  | nil => cases h
  | cons z xs => cases h; exact (foldP xs z).1
section
variable (w : Nat → Int) (cl : Nat → Nat → Bool)
def opt1 (B : Nat → Nat → Option (Int × Nat)) (a b m : Nat) : Option (Int × Nat) := match B a m, B m b with
  | some x, some y => some (pS w m - pS w a + x.1 + y.1, m)
  | _, _ => none
def opts (B : Nat → Nat → Option (Int × Nat)) (a b : Nat) : List (Int × Nat) := (List.range (b + 1 - a)).filterMap fun i => opt1 w B a b (a + i)
/-- the best (cost, split) of a range with n moves -/
def bt : Nat → Nat → Nat → Option (Int × Nat)
  | 0, a, b => if cl a b then some (0, b) else none
  | n + 1, a, b => minP (opts w (bt n) a b)
/-- labels with this cost -/
def lab : Nat → Nat → Nat → Nat → Nat
  | 0, _, _, _ => 0
  | n + 1, a, b, i => match bt w cl (n + 1) a b with
    | some x => if i < x.2 then lab n a x.2 i else 2 ^ n + lab n x.2 b i
    | none => 0
end
section
variable {w : Nat → Int} {cl : Nat → Nat → Bool} {br : Nat → Prop}
theorem opts_mem {B : Nat → Nat → Option (Int × Nat)} {a b : Nat} {x : Int × Nat} : x ∈ opts w B a b ↔ ∃ m y z, a ≤ m ∧ m ≤ b ∧ B a m = some y ∧ B m b = some z ∧ x = (pS w m - pS w a + y.1 + z.1, m) := by
  unfold opts
  rw [List.mem_filterMap]
  constructor
  · rintro ⟨i, hi, h⟩
    have hi := List.mem_range.mp hi
    unfold opt1 at h
    split at h
    · rename_i y z h1 h2
      cases h
      exact ⟨a + i, y, z, by omega, by omega, h1, h2, rfl⟩
    · cases h
  · rintro ⟨m, y, z, h1, h2, h3, h4, rfl⟩
    refine ⟨m - a, List.mem_range.mpr (by omega), ?_⟩
    have e : a + (m - a) = m := by omega
    rw [e]
    unfold opt1
    rw [h3, h4]
theorem bt_le (hcl : ∀ a b, cl a b = true ↔ Cln br a b) : ∀ (n : Nat) {a b : Nat} {f : Nat → Nat}, a ≤ b → FitR br f n a b → ∃ x, bt w cl n a b = some x ∧ x.1 ≤ cst w f n a b := by
  intro n
  induction n with
  | zero =>
    intro a b f hab ⟨h1, h2⟩
    have hc : cl a b = true := (hcl a b).mpr fun i g1 g2 hb => by
      have := (h2 i g1 g2).2 hb
      have e1 := h1 i g1 (by omega)
      have e2 := h1 (i + 1) (by omega) g2
      simp at e1 e2
      omega
    refine ⟨(0, b), by unfold bt; rw [if_pos hc], ?_⟩
    rw [cst_0 w f hab]; exact Int.le_refl _
  | succ n ih =>
    intro a b f hab ⟨h1, h2⟩
    obtain ⟨m, m1, m2, m3, m4⟩ := split_ex (2 ^ n) hab fun i g1 g2 => (h2 i g1 g2).1
    obtain ⟨x, hx, hxl⟩ := ih (f := f) m1 ⟨m3, fun i g1 g2 => h2 i g1 (by omega)⟩
    obtain ⟨y, hy, hyl⟩ := ih (f := fun i => f i - 2 ^ n) m2 ⟨fun i g1 g2 => by
      have a1 := m4 i g1 g2; have a2 := h1 i (by omega) g2
      rw [Nat.pow_succ] at a2
      show f i - 2 ^ n < 2 ^ n
      omega, fun i g1 g2 => by
      have a1 := m4 i g1 (by omega); have a3 := m4 (i + 1) (by omega) g2
      obtain ⟨a4, a5⟩ := h2 i (by omega) g2
      show f i - 2 ^ n ≤ f (i + 1) - 2 ^ n ∧ (br i → f i - 2 ^ n < f (i + 1) - 2 ^ n)
      exact ⟨by omega, fun hb => by have := a5 hb; omega⟩⟩
    have hm : (pS w m - pS w a + x.1 + y.1, m) ∈ opts w (bt w cl n) a b := opts_mem.mpr ⟨m, x, y, m1, m2, hx, hy, rfl⟩
    obtain ⟨z, hz, hzl⟩ := minP_le hm
    refine ⟨z, hz, Int.le_trans hzl ?_⟩
    rw [cst_split w f (n + 1) a m b, cst_lo m1 m3, cst_hi m2 fun i g1 g2 => ⟨m4 i g1 g2, h1 i (by omega) g2⟩]
    show pS w m - pS w a + x.1 + y.1 ≤ _
    omega
theorem bt_split {n a b : Nat} {x : Int × Nat} (h : bt w cl (n + 1) a b = some x) : ∃ y z, a ≤ x.2 ∧ x.2 ≤ b ∧ bt w cl n a x.2 = some y ∧ bt w cl n x.2 b = some z ∧ x.1 = pS w x.2 - pS w a + y.1 + z.1 := by
  obtain ⟨m, y, z, h1, h2, h3, h4, rfl⟩ := opts_mem.mp (minP_mem h)
  exact ⟨y, z, h1, h2, h3, h4, rfl⟩
theorem lab_s {n a b i : Nat} {x : Int × Nat} (h : bt w cl (n + 1) a b = some x) : lab w cl (n + 1) a b i = if i < x.2 then lab w cl n a x.2 i else 2 ^ n + lab w cl n x.2 b i := by
  conv => lhs; unfold lab
  rw [h]
theorem lab_ok (hcl : ∀ a b, cl a b = true ↔ Cln br a b) : ∀ (n : Nat) {a b : Nat} {x : Int × Nat}, a ≤ b → bt w cl n a b = some x → FitR br (lab w cl n a b) n a b ∧ cst w (lab w cl n a b) n a b = x.1 := by
  intro n
  induction n with
  | zero =>
    intro a b x hab h
    unfold bt at h
    split at h
    · rename_i hc
      cases h
      refine ⟨⟨fun i _ _ => Nat.one_pos, fun i g1 g2 => ⟨Nat.le_refl _, fun hb => absurd hb ((hcl a b).mp hc i g1 g2)⟩⟩, cst_0 w _ hab⟩
    · cases h
  | succ n ih =>
    intro a b x hab h
    obtain ⟨y, z, h1, h2, h3, h4, h5⟩ := bt_split h
    obtain ⟨⟨f1, f2⟩, c1⟩ := ih h1 h3
    obtain ⟨⟨f3, f4⟩, c2⟩ := ih h2 h4
    have lo : ∀ i, i < x.2 → lab w cl (n + 1) a b i = lab w cl n a x.2 i := fun i hi => by rw [lab_s h, if_pos hi]
    have hi : ∀ i, x.2 ≤ i → lab w cl (n + 1) a b i = 2 ^ n + lab w cl n x.2 b i := fun i hi => by rw [lab_s h, if_neg (by omega)]
    have b1 : ∀ i, a ≤ i → i < x.2 → lab w cl (n + 1) a b i < 2 ^ n := fun i g1 g2 => by rw [lo i g2]; exact f1 i g1 g2
    have b2 : ∀ i, x.2 ≤ i → i < b → 2 ^ n ≤ lab w cl (n + 1) a b i ∧ lab w cl (n + 1) a b i < 2 ^ (n + 1) := fun i g1 g2 => by
      have := f3 i g1 g2
      rw [hi i g1, Nat.pow_succ]; omega
    refine ⟨⟨fun i g1 g2 => ?_, fun i g1 g2 => ?_⟩, ?_⟩
    · by_cases e : i < x.2
      · have := b1 i g1 e; rw [Nat.pow_succ]; omega
      · exact (b2 i (by omega) g2).2
    · by_cases e : i + 1 < x.2
      · rw [lo i (by omega), lo (i + 1) e]; exact f2 i g1 e
      · by_cases e2 : i < x.2
        · have q1 := b1 i g1 e2
          have q2 := (b2 (i + 1) (by omega) g2).1
          exact ⟨by omega, fun _ => by omega⟩
        · obtain ⟨q1, q2⟩ := f4 i (by omega) g2
          rw [hi i (by omega), hi (i + 1) (by omega)]
          exact ⟨by omega, fun hb => by have := q2 hb; omega⟩
    · rw [cst_split w _ (n + 1) a x.2 b, cst_lo h1 b1, cst_hi h2 b2, h5]
      have e1 : cst w (lab w cl (n + 1) a b) n a x.2 = y.1 := by rw [← c1]; exact cst_congr h1 fun i _ g2 => by rw [lo i g2]
      have e2 : cst w (fun i => lab w cl (n + 1) a b i - 2 ^ n) n x.2 b = z.1 := by
        rw [← c2]; exact cst_congr h2 fun i g1 _ => by
          show zer (lab w cl (n + 1) a b i - 2 ^ n) n = _
          rw [hi i g1, Nat.add_sub_cancel_left]
      rw [e1, e2]; omega
end
end BT
namespace BT
open PySem
/-! ## the cost of moves, by labels -/
def wt (vs ws : List Int) (v : Int) : Int := ws.getD (ix vs v) 0
def pCost (g : Int → Int) (rows : List (List Int)) : Int := (rows.map fun r => (r.map g).sum).sum
/-- in how many moves an item is selected -/
def occ (rows : List (List Int)) (v : Int) : Nat := (rows.filter fun r => decide (v ∈ r)).length
theorem sum_perm {l m : List Int} (h : l.Perm m) : l.sum = m.sum := by
  induction h with
  | nil => rfl
  | cons x _ ih => rw [List.sum_cons, List.sum_cons, ih]
  | swap x y l => simp only [List.sum_cons]; omega
  | trans _ _ h1 h2 => exact h1.trans h2
theorem sum_rng (h : Nat → Int) : ∀ n, ((List.range n).map h).sum = pS h n
  | 0 => rfl
  | n + 1 => by rw [List.range_succ, List.map_append, List.sum_append, sum_rng h n, pS_s]; simp
theorem map_rng (g : Int → Int) (tg : List Int) : tg.map g = (List.range tg.length).map fun i => g (tg.getD i 0) := by
  refine List.ext_getElem (by simp) fun i h1 h2 => ?_
  have : i < tg.length := by simpa using h1
  simp [this]
theorem sum_pS (g : Int → Int) (tg : List Int) : (tg.map g).sum = pS (fun i => g (tg.getD i 0)) tg.length := by rw [map_rng, sum_rng]
theorem sum_filter (g : Int → Int) (p : Int → Bool) : ∀ l : List Int, ((l.filter p).map g).sum = (l.map fun v => if p v then g v else 0).sum
  | [] => rfl
  | x :: l => by
    rw [List.filter_cons]
    cases h : p x <;> simp [h, sum_filter g p l]
theorem sel_perm {tg r : List Int} (nd : tg.Nodup) (hs : r.Pairwise (· < ·)) (hm : ∀ v ∈ r, v ∈ tg) : r.Perm (tg.filter fun v => decide (v ∈ r)) := by
  refine (List.perm_ext_iff_of_nodup (hs.imp fun h => by omega) (nd.filter _)).mpr fun v => ?_
  rw [List.mem_filter, decide_eq_true_eq]
  exact ⟨fun h => ⟨hm v h, h⟩, fun h => h.2⟩
theorem sel_sum (g : Int → Int) {tg r : List Int} (nd : tg.Nodup) (hs : r.Pairwise (· < ·)) (hm : ∀ v ∈ r, v ∈ tg) : (r.map g).sum = pS (fun i => if tg.getD i 0 ∈ r then g (tg.getD i 0) else 0) tg.length := by
  rw [sum_perm ((sel_perm nd hs hm).map g), sum_filter, sum_pS]
  simp only [decide_eq_true_eq]
theorem occ_c (r : List Int) (rows : List (List Int)) (v : Int) : occ (r :: rows) v = (if v ∈ r then 1 else 0) + occ rows v := by
  unfold occ
  rw [List.filter_cons]
  by_cases h : v ∈ r <;> simp [h]; omega
theorem pCost_occ (g : Int → Int) {tg : List Int} (nd : tg.Nodup) : ∀ {rows : List (List Int)}, (∀ r ∈ rows, r.Pairwise (· < ·) ∧ ∀ v ∈ r, v ∈ tg) → pCost g rows = pS (fun i => g (tg.getD i 0) * (occ rows (tg.getD i 0) : Nat)) tg.length
  | [], _ => by
    have : (fun i => g (tg.getD i 0) * (occ [] (tg.getD i 0) : Nat)) = fun _ => (0 : Int) := by funext i; simp [occ]
    rw [this, pS_zero]; rfl
  | r :: rows, h => by
    have h1 := h r List.mem_cons_self
    have ih := pCost_occ g nd (rows := rows) fun r hr => h r (List.mem_cons_of_mem _ hr)
    show (r.map g).sum + pCost g rows = _
    rw [ih, sel_sum g nd h1.1 h1.2, ← pS_add]
    congr 1
    funext i
    rw [occ_c]
    by_cases hm : tg.getD i 0 ∈ r
    · rw [if_pos hm, if_pos hm, Int.natCast_add, Int.mul_add]; simp
    · rw [if_neg hm, if_neg hm]; simp
theorem occ_zer (v : Int) (rows : List (List Int)) : occ rows v = zer (pLabel v rows).toNat rows.length := by
  unfold occ zer
  have e : rows = (List.range rows.length).map fun j => rows.getD j [] := by
    refine List.ext_getElem (by simp) fun i h1 h2 => ?_
    simp [h1]
  conv => lhs; rw [e]
  rw [List.filter_map, List.length_map]
  congr 1
  refine List.filter_congr fun j hj => ?_
  have hj := List.mem_range.mp hj
  have hb := bit_label v rows j hj
  have hl := pLabel_lo v rows
  simp only [Function.comp]
  have e2 : rows.getD j [] = rows[j] := by simp [hj]
  refine decide_eq_decide.mpr ?_
  rw [e2]
  obtain ⟨x, hx⟩ := Int.eq_ofNat_of_zero_le hl
  rw [hx] at hb ⊢
  rw [Int.toNat_natCast]
  have e3 : (x : Int) / 2 ^ j % 2 = ((x / 2 ^ j % 2 : Nat) : Int) := by rw [Int.natCast_emod, Int.natCast_ediv]; simp
  rw [e3] at hb
  unfold bit at hb
  by_cases hm : v ∈ rows[j]
  · rw [if_pos hm] at hb; exact ⟨fun _ => by omega, fun _ => hm⟩
  · rw [if_neg hm] at hb; exact ⟨fun h => absurd h hm, fun h => by omega⟩
/-- breaks inside the target -/
def brk (vs tg : List Int) (i : Nat) : Prop := i + 1 < tg.length ∧ Brk vs tg i
def clB (vs tg : List Int) (a b : Nat) : Bool := (pBreaks vs tg).all fun x => !(decide ((a : Int) < x) && decide (x < (b : Int)))
theorem mem_breaks {vs tg : List Int} {x : Int} : x ∈ pBreaks vs tg ↔ ∃ i, brk vs tg i ∧ x = 1 + (i : Int) := by
  rw [pBreaks_eq, List.mem_map]
  constructor
  · rintro ⟨i, hi, rfl⟩
    obtain ⟨h1, h2⟩ := List.mem_filter.mp hi
    exact ⟨i, ⟨by have := List.mem_range.mp h1; omega, of_decide_eq_true h2⟩, rfl⟩
  · rintro ⟨i, ⟨h1, h2⟩, rfl⟩
    exact ⟨i, List.mem_filter.mpr ⟨List.mem_range.mpr (by omega), decide_eq_true h2⟩, rfl⟩
theorem clB_iff (vs tg : List Int) (a b : Nat) : clB vs tg a b = true ↔ Cln (brk vs tg) a b := by
  unfold clB Cln
  rw [List.all_eq_true]
  constructor
  · intro h i g1 g2 hb
    have := h (1 + (i : Int)) (mem_breaks.mpr ⟨i, hb, rfl⟩)
    simp at this
    omega
  · intro h x hx
    obtain ⟨i, hb, rfl⟩ := mem_breaks.mp hx
    have := h i
    simp only [Bool.not_eq_true', Bool.and_eq_false_iff, decide_eq_false_iff_not]
    by_cases g1 : a ≤ i
    · by_cases g2 : i + 1 < b
      · exact absurd hb (this g1 g2)
      · exact .inr (by omega)
    · exact .inl (by omega)
section
variable {vs tg : List Int} {g : Int → Int}
def wAt (g : Int → Int) (tg : List Int) (i : Nat) : Int := g (tg.getD i 0)
theorem cost_low (nd : vs.Nodup) (hp : tg.Perm vs) {rows : List (List Int)} (hg : ∀ r ∈ rows, GoodSel vs r) (ha : pAfter vs rows = tg) : ∃ x, bt (wAt g tg) (clB vs tg) rows.length 0 tg.length = some x ∧ x.1 ≤ pCost g rows := by
  have nt : tg.Nodup := hp.nodup_iff.mpr nd
  have hf := (fit_brk nt (perm_in hp)).mp ((after_iff nd rows).mp ha).2
  have hfr : FitR (brk vs tg) (fun i => (pLabel (tg.getD i 0) rows).toNat) rows.length 0 tg.length := by
    refine ⟨fun i _ h2 => ?_, fun i _ h2 => ?_⟩
    · have h1 := pLabel_hi (tg.getD i 0) rows
      have h3 := pLabel_lo (tg.getD i 0) rows
      have e : (2 : Int) ^ rows.length = ((2 ^ rows.length : Nat) : Int) := by simp
      rw [e] at h1
      show (pLabel (tg.getD i 0) rows).toNat < _
      omega
    · obtain ⟨q1, q2⟩ := hf i h2
      have e1 : tg.getD i 0 = tg[i] := by simp [show i < tg.length by omega]
      have e2 : tg.getD (i + 1) 0 = tg[i + 1] := by simp [h2]
      have h3 := pLabel_lo tg[i] rows
      show (pLabel (tg.getD i 0) rows).toNat ≤ (pLabel (tg.getD (i + 1) 0) rows).toNat ∧ (brk vs tg i → (pLabel (tg.getD i 0) rows).toNat < (pLabel (tg.getD (i + 1) 0) rows).toNat)
      rw [e1, e2]
      exact ⟨by omega, fun hb => by have := q2 hb.2; omega⟩
  obtain ⟨x, h1, h2⟩ := bt_le (w := wAt g tg) (clB_iff vs tg) rows.length (Nat.zero_le _) hfr
  refine ⟨x, h1, Int.le_trans h2 (Int.le_of_eq ?_)⟩
  rw [pCost_occ g nt fun r hr => ⟨(hg r hr).2, fun v hv => hp.mem_iff.mpr ((hg r hr).1 v hv)⟩]
  unfold cst
  show pS _ _ - 0 = _
  rw [Int.sub_zero]
  congr 1
  funext i
  rw [occ_zer]
  rfl
/-- the plan that the tables tell -/
def bPlan (g : Int → Int) (vs tg : List Int) (n : Nat) : List (List Int) := pDecode vs n (vs.map fun v => ((lab (wAt g tg) (clB vs tg) n 0 tg.length (ix tg v) : Nat) : Int))
theorem cost_plan (nd : vs.Nodup) (hp : tg.Perm vs) {n : Nat} {x : Int × Nat} (h : bt (wAt g tg) (clB vs tg) n 0 tg.length = some x) :
    (bPlan g vs tg n).length = n ∧ (∀ r ∈ bPlan g vs tg n, GoodSel vs r) ∧ pAfter vs (bPlan g vs tg n) = tg ∧ pCost g (bPlan g vs tg n) = x.1 := by
  have nt : tg.Nodup := hp.nodup_iff.mpr nd
  obtain ⟨⟨f1, f2⟩, hc⟩ := lab_ok (clB_iff vs tg) n (Nat.zero_le _) h
  have hix : ∀ v ∈ vs, ix tg v < tg.length := fun v hv => List.idxOf_lt_length_of_mem (hp.mem_iff.mpr hv)
  have e2n : (2 : Int) ^ n = ((2 ^ n : Nat) : Int) := by simp
  have hgood : ∀ r ∈ bPlan g vs tg n, GoodSel vs r := decode_good nd n
  have hbd : ∀ v ∈ vs, (0 : Int) ≤ ((lab (wAt g tg) (clB vs tg) n 0 tg.length (ix tg v) : Nat) : Int) ∧ ((lab (wAt g tg) (clB vs tg) n 0 tg.length (ix tg v) : Nat) : Int) < 2 ^ n := fun v hv => by
    have := f1 (ix tg v) (Nat.zero_le _) (hix v hv)
    rw [e2n]; omega
  refine ⟨decode_len _ _ _, hgood, ?_, ?_⟩
  · refine (decode_after nd hp hbd).mpr ((fit_brk nt (perm_in hp)).mpr fun i hi => ?_)
    have e1 : ix tg tg[i] = i := nt.idxOf_getElem i (by omega)
    have e2 : ix tg tg[i + 1] = i + 1 := nt.idxOf_getElem (i + 1) hi
    rw [e1, e2]
    obtain ⟨q1, q2⟩ := f2 i (Nat.zero_le _) hi
    exact ⟨by omega, fun hb => by have := q2 ⟨hi, hb⟩; omega⟩
  · have hpl : (bPlan g vs tg n).length = n := decode_len _ _ _
    rw [← hc, pCost_occ g nt fun r hr => ⟨(hgood r hr).2, fun v hv => hp.mem_iff.mpr ((hgood r hr).1 v hv)⟩]
    unfold cst
    show _ = pS _ _ - 0
    rw [Int.sub_zero]
    have := pS_congr (g := fun i => g (tg.getD i 0) * (occ (bPlan g vs tg n) (tg.getD i 0) : Nat)) (h := fun i => wAt g tg i * (zer (lab (wAt g tg) (clB vs tg) n 0 tg.length i) n : Nat)) (a := 0) (b := tg.length) (Nat.zero_le _) fun i _ hi => by
      have e1 : tg.getD i 0 = tg[i] := by simp [hi]
      have e3 : ix tg tg[i] = i := nt.idxOf_getElem i hi
      show g (tg.getD i 0) * _ = g (tg.getD i 0) * _
      rw [occ_zer, hpl, e1]
      obtain ⟨k, hk, e4⟩ := List.getElem_of_mem (perm_in hp _ (List.getElem_mem hi))
      have hl := label_decode (vals := vs.map fun v => ((lab (wAt g tg) (clB vs tg) n 0 tg.length (ix tg v) : Nat) : Int)) nd (by simp) (n := n) (fun w hw => by
        obtain ⟨v, hv, rfl⟩ := List.mem_map.mp hw
        exact hbd v hv) hk
      rw [e4, List.getElem_map, e4, e3] at hl
      show g tg[i] * (zer (pLabel tg[i] (pDecode vs n _)).toNat n : Nat) = _
      rw [hl, Int.toNat_natCast]
    show pS _ _ = pS _ _
    have z1 : pS (fun i => g (tg.getD i 0) * (occ (bPlan g vs tg n) (tg.getD i 0) : Nat)) 0 = 0 := rfl
    have z2 : pS (fun i => wAt g tg i * (zer (lab (wAt g tg) (clB vs tg) n 0 tg.length i) n : Nat)) 0 = 0 := rfl
    rw [z1, z2] at this
    omega
theorem bt_some_iff (nd : vs.Nodup) (h0 : vs ≠ []) (hp : tg.Perm vs) (n : Nat) : (∃ x, bt (wAt g tg) (clB vs tg) n 0 tg.length = some x) ↔ mf (pBreaks vs tg).length ≤ n := by
  constructor
  · rintro ⟨x, h⟩
    obtain ⟨q1, q2, q3, _⟩ := cost_plan nd hp h
    have := fewest_le nd h0 (bPlan g vs tg n)
    rw [q3, q1] at this
    exact this
  · intro h
    obtain ⟨rows, r1, r2, r3⟩ := plan_ex nd hp ((mf_iff _ _).mpr h)
    obtain ⟨x, hx, _⟩ := cost_low (g := g) nd hp r2 r3
    rw [r1] at hx
    exact ⟨x, hx⟩
end
end BT
namespace BT
open PySem
/-! ## dicts with lists of whole numbers as keys, any values -/
abbrev kvG (l : List (List Int × D)) : List (D × D) := l.map fun p => (iT p.1, p.2)
theorem kOk_G (l : List (List Int × D)) (k : List Int) : kOk (kvG l) (iT k) = true := by
  unfold kOk
  rw [keyN_ints 7 k]
  cases l with
  | nil => rfl
  | cons p l => rfl
def lkG : List (List Int × D) → List Int → Option D
  | [], _ => none
  | p :: l, k => if p.1 = k then some p.2 else lkG l k
def stG : List (List Int × D) → List Int → D → List (List Int × D)
  | [], k, v => [(k, v)]
  | p :: l, k, v => if p.1 = k then (p.1, v) :: l else p :: stG l k v
theorem dlook_G : ∀ (l : List (List Int × D)) (k : List Int), dlook (kvG l) (iT k) = lkG l k
  | [], _ => rfl
  | p :: l, k => by
    show (if PyData.eqv (iT p.1) (iT k) then some p.2 else dlook (kvG l) (iT k)) = _
    rw [eqv_T, dlook_G l k]
    show _ = if p.1 = k then some p.2 else lkG l k
    by_cases h : p.1 = k <;> simp [h]
theorem dstore_G : ∀ (l : List (List Int × D)) (k : List Int) (v : D), dstore (kvG l) (iT k) v = kvG (stG l k v)
  | [], _, _ => rfl
  | p :: l, k, v => by
    show (if PyData.eqv (iT p.1) (iT k) then (iT p.1, v) :: kvG l else (iT p.1, p.2) :: dstore (kvG l) (iT k) v) = _
    rw [eqv_T, dstore_G l k v]
    show _ = kvG (if p.1 = k then (p.1, v) :: l else p :: stG l k v)
    by_cases h : p.1 = k <;> simp [h]
theorem lk_st (k k' : List Int) (v : D) : ∀ l : List (List Int × D), lkG (stG l k v) k' = if k = k' then some v else lkG l k'
  | [] => rfl
  | p :: l => by
    have ih := lk_st k k' v l
    unfold stG
    by_cases h : p.1 = k
    · rw [if_pos h]
      unfold lkG
      by_cases h2 : k = k'
      · rw [if_pos (h.trans h2), if_pos h2]
      · rw [if_neg (fun e => h2 (h.symm.trans e)), if_neg h2, if_neg fun e => h2 (h.symm.trans e)]
    · rw [if_neg h]
      unfold lkG
      by_cases h1 : p.1 = k'
      · rw [if_pos h1, if_neg fun e => h (h1.trans e.symm), if_pos h1]
      · rw [if_neg h1, if_neg h1, ih]
theorem st_len (k : List Int) (v : D) : ∀ l : List (List Int × D), (stG l k v).length ≤ l.length + 1
  | [] => by simp [stG]
  | p :: l => by
    have := st_len k v l
    unfold stG
    split <;> simp <;> omega
/-! ## pairs -/
abbrev encP (p : Int × Nat) : D := .tuple [.int p.1, .int (p.2 : Nat)]
theorem alike_p (p q : Int × Nat) : PySem.W.alike (encP p) (encP q) = true := by simp [encP, PySem.W.alike, PySem.W.alikeAll]
theorem ordOk_p (ps : List (Int × Nat)) : ordOk (ps.map encP) = true := by
  unfold ordOk
  have pl : ∀ ps : List (Int × Nat), PyData.plainAll (ps.map encP) = true := fun ps => by
    induction ps with
    | nil => rfl
    | cons p ps ih => simp [PyData.plainAll, PyData.plain, ih]
  have dp : ∀ ps : List (Int × Nat), PyData.depthAll (ps.map encP) ≤ 2 := fun ps => by
    induction ps with
    | nil => simp [PyData.depthAll]
    | cons p ps ih => simp [PyData.depthAll, PyData.depth]; omega
  simp only [Bool.and_eq_true, Bool.or_eq_true, decide_eq_true_eq, List.all_eq_true]
  refine ⟨⟨⟨fun x hx y hy => ?_, .inl fun x hx => ?_⟩, pl ps⟩, Nat.le_trans (dp ps) (by decide)⟩
  · obtain ⟨p, _, rfl⟩ := List.mem_map.mp hx
    obtain ⟨q, _, rfl⟩ := List.mem_map.mp hy
    exact alike_p p q
  · obtain ⟨p, _, rfl⟩ := List.mem_map.mp hx
    rfl
theorem minD_p : ∀ (ps : List (Int × Nat)) (p : Int × Nat), PySem.W.minD (encP p) (ps.map encP) = encP (ps.foldl (fun a y => if y.1 < a.1 ∨ (y.1 = a.1 ∧ y.2 < a.2) then y else a) p)
  | [], _ => rfl
  | q :: ps, p => by
    have ih := minD_p ps
    unfold PySem.W.minD at ih ⊢
    rw [List.map_cons, List.foldl_cons, List.foldl_cons, ← ih]
    congr 1
    rw [PySem.W.dataLt_ii]
    by_cases h : q.1 < p.1 ∨ (q.1 = p.1 ∧ q.2 < p.2)
    · have h' : q.1 < p.1 ∨ (q.1 = p.1 ∧ ((q.2 : Nat) : Int) < (p.2 : Nat)) := by omega
      rw [if_pos h, if_pos (decide_eq_true h')]
    · have h' : ¬ (q.1 < p.1 ∨ (q.1 = p.1 ∧ ((q.2 : Nat) : Int) < (p.2 : Nat))) := by omega
      rw [if_neg h, if_neg (by rw [decide_eq_true_eq]; exact h')]
theorem min_p {ps : List (Int × Nat)} {x : Int × Nat} (h : minP ps = some x) : dpr .min (.list (ps.map encP)) = some (encP x) := by
  cases ps with
  | nil => cases h
  | cons p ps =>
    cases h
    have e : ints? ((p :: ps).map encP) = none := rfl
    rw [dp_min, e]
    show minDD (encP p :: ps.map encP) = _
    have ok := ordOk_p (p :: ps)
    rw [List.map_cons] at ok
    show (if ordOk (encP p :: ps.map encP) = true then some (PySem.W.minD (encP p) (ps.map encP)) else none) = _
    rw [if_pos ok, minD_p]
theorem eqOk_p (ps : List (Int × Nat)) : eqOk (ps.map encP) := by
  constructor
  · induction ps with
    | nil => rfl
    | cons p ps ih => simp [PyData.plainAll, PyData.plain, ih]
  · refine Nat.le_trans ?_ (show 2 ≤ 19 by decide)
    induction ps with
    | nil => simp [PyData.depthAll]
    | cons p ps ih => simp [PyData.depthAll, PyData.depth]; omega
/-! ## all ranges -/
abbrev encN (p : Nat × Nat) : D := .tuple [.int (p.1 : Nat), .int (p.2 : Nat)]
def partsOf (s : Nat) : List (Nat × Nat) := (List.range (s + 1)).flatMap fun a => (List.range (s + 1 - a)).map fun i => (a, a + i)
theorem parts_mem {s : Nat} {p : Nat × Nat} : p ∈ partsOf s ↔ p.1 ≤ p.2 ∧ p.2 ≤ s := by
  unfold partsOf
  rw [List.mem_flatMap]
  constructor
  · rintro ⟨a, ha, h⟩
    have ha := List.mem_range.mp ha
    obtain ⟨i, hi, rfl⟩ := List.mem_map.mp h
    have hi := List.mem_range.mp hi
    exact ⟨by show a ≤ a + i; omega, by show a + i ≤ s; omega⟩
  · rintro ⟨h1, h2⟩
    exact ⟨p.1, List.mem_range.mpr (by omega), List.mem_map.mpr ⟨p.2 - p.1, List.mem_range.mpr (by omega), Prod.ext rfl (by show p.1 + (p.2 - p.1) = p.2; omega)⟩⟩
theorem parts_len (s : Nat) : (partsOf s).length ≤ (s + 1) * (s + 1) := by
  unfold partsOf
  rw [List.length_flatMap]
  have : ∀ l : List Nat, (l.map fun a => ((List.range (s + 1 - a)).map fun i => (a, a + i)).length).sum ≤ l.length * (s + 1) := fun l => by
    induction l with
    | nil => simp
    | cons x l ih =>
      rw [List.map_cons, List.sum_cons, List.length_cons, Nat.add_mul, List.length_map, List.length_range]
      omega
  have := this (List.range (s + 1))
  rwa [List.length_range] at this
/-- the dict l tells T for all ranges -/
def Tells (T : Nat → Nat → Option (Int × Nat)) (s : Nat) (l : List (List Int × D)) : Prop := ∀ a b : Nat, lkG l [(a : Int), (b : Int)] = if a ≤ b ∧ b ≤ s then (T a b).map encP else none
theorem key_inj {a b c d : Nat} (h : [(a : Int), (b : Int)] = [(c : Int), (d : Int)]) : a = c ∧ b = d := by
  simp at h; omega
theorem Tells.of {T : Nat → Nat → Option (Int × Nat)} {s : Nat} {l : List (List Int × D)} (h : ∀ a b : Nat, lkG l [(a : Int), (b : Int)] = if (a, b) ∈ partsOf s then (T a b).map encP else none) : Tells T s l := fun a b => by
  rw [h a b]
  by_cases q : a ≤ b ∧ b ≤ s
  · rw [if_pos q, if_pos (parts_mem.mpr q)]
  · rw [if_neg q, if_neg fun z => q (parts_mem.mp z)]
section
variable {T : Tab} {k : Nat}
theorem allparts_ok (B : Base T) (hk : 1 ≤ k) (s : Nat) (hs : s ≤ 100) : callk T k "all_parts" [.int s] .none = .ok (.list ((partsOf s).map encN)) .none := by
  refine wC_is (wC_runk (by omega) (B.ext _ _ tt_all_parts) rfl fun j hj => ?_)
  have sm : smallI ((s : Int) + 1) = true := decide_eq_true (show _ ∧ _ by omega)
  have e1 : ((s : Int) + 1).toNat = s + 1 := by omega
  simp [f_all_parts, b_all_parts, -List.map_map, -List.any_map, -List.all_map, sm, e1, rngL]
  refine for_pre (fun pre e => ∃ x2, e = [.val (.int s), .own (.list ((pre.flatMap fun a => (List.range (s + 1 - a)).map fun i => (a, a + i)).map encN)), x2, .no] ∧ (pre.flatMap fun a => (List.range (s + 1 - a)).map fun i => (a, a + i)).length ≤ pre.length * 101) ⟨_, rfl, by simp⟩ ?_ ?_
  · rintro pre a post hl e ⟨x2, rfl, hlen⟩
    have ha : a < s + 1 := List.mem_range.mp (by rw [hl]; simp)
    have hpl : pre.length ≤ s := by have := congrArg List.length hl; simp at this; omega
    have sa : smallI (a : Int) = true := decide_eq_true (show _ ∧ _ by omega)
    have e2 : ((s : Int) + 1 - (a : Int)).toNat = s + 1 - a := by omega
    have lg : s + 1 - a ≤ 1000000 := by omega
    simp [turnS, b_all_parts_L1, -List.map_map, -List.any_map, -List.all_map, sm, sa, e2, lg, rngL]
    refine lc_wp (fun i : Nat => encN (a, a + i)) (fun i hi => ?_) ?_
    · simp [-List.map_map, -List.any_map, -List.all_map]
    · have e3 : ((List.range (s + 1 - a)).map fun i : Nat => encN (a, a + i)) = ((List.range (s + 1 - a)).map fun i => (a, a + i)).map encN := by rw [List.map_map]; rfl
      have lg2 : (pre.flatMap fun a => (List.range (s + 1 - a)).map fun i => (a, a + i)).length + (s + 1 - a) ≤ 1000000 := by
        have : pre.length * 101 ≤ 100 * 101 := Nat.mul_le_mul_right _ (by omega)
        omega
      rw [e3]
      simp only [List.length_flatMap, List.length_map, List.length_range] at lg2 hlen ⊢
      simp [-List.map_map, -List.any_map, -List.all_map, lg2]
      refine .i ⟨.val (.int a), by rw [List.flatMap_append, List.map_append]; simp, ?_⟩
      simp only [List.length_flatMap, List.length_map, List.length_range, List.map_append, List.sum_append, List.length_append]
      simp
      omega
  · rintro e ⟨x2, rfl, _⟩
    simp [-List.map_map, -List.any_map, -List.all_map, partsOf]
end
end BT
namespace BT
open PySem
section
variable {T : Tab} {k : Nat}
theorem pS_step (g : Int → Int) (tg : List Int) {pre : List Int} {a : Int} {post : List Int} (h : tg = pre ++ a :: post) : pS (wAt g tg) (pre.length + 1) = pS (wAt g tg) pre.length + g a := by
  rw [pS_s]
  congr 1
  unfold wAt
  rw [h]
  simp
/-- the sums as the program keeps them -/
def sumsL (g : Int → Int) (tg : List Int) (n : Nat) : List D := (List.range (n + 1)).map fun i => PyData.int (pS (wAt g tg) i)
theorem sums_s (g : Int → Int) (tg : List Int) (n : Nat) : sumsL g tg (n + 1) = sumsL g tg n ++ [.int (pS (wAt g tg) (n + 1))] := by
  unfold sumsL
  rw [List.range_succ, List.map_append]; rfl
theorem sums_last (g : Int → Int) (tg : List Int) (n : Nat) : (sumsL g tg n).getLast? = some (.int (pS (wAt g tg) n)) := by
  unfold sumsL
  rw [List.range_succ, List.map_append, List.map_singleton, List.getLast?_append]; rfl
theorem sums_at (g : Int → Int) (tg : List Int) {n i : Nat} (h : i ≤ n) : (sumsL g tg n)[i]? = some (.int (pS (wAt g tg) i)) := by
  unfold sumsL
  rw [List.getElem?_map, List.getElem?_range (by omega)]; rfl
theorem sums_len (g : Int → Int) (tg : List Int) (n : Nat) : (sumsL g tg n).length = n + 1 := by simp [sumsL]
theorem wt_at {vs ws : List Int} (hl : ws.length = vs.length) {v : Int} (hv : v ∈ vs) : ws[ix vs v]? = some (wt vs ws v) := by
  have h1 : ix vs v < vs.length := List.idxOf_lt_length_of_mem hv
  unfold wt
  rw [List.getD_eq_getElem?_getD, List.getElem?_eq_getElem (by omega)]; rfl
/-- the tables are told by the dicts -/
def TabsOk (g : Int → Int) (vs tg : List Int) (ls : List (List (List Int × D))) : Prop := ∀ (i : Nat) (l : List (List Int × D)), ls[i]? = some l → Tells (bt (wAt g tg) (clB vs tg) i) tg.length l
abbrev tabsD (ls : List (List (List Int × D))) : List D := ls.map fun l => .dict (kvG l)
theorem tabs_last {ls : List (List (List Int × D))} {l : List (List Int × D)} (h : ls.getLast? = some l) : (tabsD ls).getLast? = some (.dict (kvG l)) := by
  rw [List.getLast?_map, h]; rfl
/-- the inner loop: the options of a range -/
theorem opts_walk {C : Calls} {g : Int → Int} {tg : List Int} {B : Nat → Nat → Option (Int × Nat)} {l : List (List Int × D)} (hT : Tells B tg.length l) {a b : Nat} (hab : a ≤ b) (hb : b ≤ tg.length) (hlen : tg.length ≤ 12) (x0 x1 x2 x3 x4 x6 x7 x8 x11 x12 x13 x16 x17 : Slot) {R : Fl → Env → Prop}
    (fin : ∀ x16 x17, R .next [x0, x1, x2, x3, x4, .own (.list (sumsL g tg tg.length)), x6, x7, x8, .val (.int a), .val (.int b), x11, x12, x13, .val (.dict (kvG l)), .own (.list ((opts (wAt g tg) B a b).map encP)), x16, x17]) :
    wpFor C (.v 16) b_tables_for_L3 (rngL a (b + 1 - a)) [x0, x1, x2, x3, x4, .own (.list (sumsL g tg tg.length)), x6, x7, x8, .val (.int a), .val (.int b), x11, x12, x13, .val (.dict (kvG l)), .own (.list []), x16, x17] R := by
  have hl := List.length_filterMap_le (fun i => opt1 (wAt g tg) B a b (a + i)) (List.range (b + 1 - a))
  unfold rngL
  refine for_pre (fun pre e => ∃ x16 x17, e = [x0, x1, x2, x3, x4, .own (.list (sumsL g tg tg.length)), x6, x7, x8, .val (.int a), .val (.int b), x11, x12, x13, .val (.dict (kvG l)), .own (.list ((pre.filterMap fun i => opt1 (wAt g tg) B a b (a + i)).map encP)), x16, x17]) ⟨_, _, rfl⟩ ?_ ?_
  · rintro pre i post hpre e ⟨x16, x17, rfl⟩
    have hi : i < b + 1 - a := List.mem_range.mp (by rw [hpre]; simp)
    have hpl : pre.length ≤ 13 := by have := congrArg List.length hpre; simp at this; omega
    have hq := List.length_filterMap_le (fun i => opt1 (wAt g tg) B a b (a + i)) pre
    have b1 : (pre.filterMap fun i => opt1 (wAt g tg) B a b (a + i)).length < big := by show _ < 1000000; omega
    have ec : (a : Int) + (i : Int) = ((a + i : Nat) : Int) := by omega
    have t1 := hT a (a + i)
    have t2 := hT (a + i) b
    rw [if_pos (by omega)] at t1 t2
    have k1 : kOk (kvG l) (.tuple [.int (a : Int), .int ((a + i : Nat) : Int)]) = true := kOk_G l [(a : Int), ((a + i : Nat) : Int)]
    have k2 : kOk (kvG l) (.tuple [.int ((a + i : Nat) : Int), .int (b : Int)]) = true := kOk_G l [((a + i : Nat) : Int), (b : Int)]
    have d1 : dlook (kvG l) (.tuple [.int (a : Int), .int ((a + i : Nat) : Int)]) = _ := dlook_G l [(a : Int), ((a + i : Nat) : Int)]
    have d2 : dlook (kvG l) (.tuple [.int ((a + i : Nat) : Int), .int (b : Int)]) = _ := dlook_G l [((a + i : Nat) : Int), (b : Int)]
    rw [t1] at d1
    rw [t2] at d2
    have s1 := sums_at g tg (n := tg.length) (i := a + i) (by omega)
    have s2 := sums_at g tg (n := tg.length) (i := a) (by omega)
    have eo : (pre ++ [i]).filterMap (fun i => opt1 (wAt g tg) B a b (a + i)) = (pre.filterMap fun i => opt1 (wAt g tg) B a b (a + i)) ++ (opt1 (wAt g tg) B a b (a + i)).toList := by
      rw [List.filterMap_append]
      congr 1
    cases h1 : B a (a + i) with
    | none =>
      have o1 : opt1 (wAt g tg) B a b (a + i) = none := by unfold opt1; rw [h1]
      rw [h1] at d1
      simp only [Option.map_none] at d1
      simp [turnS, b_tables_for_L3, -List.map_map, -List.any_map, -List.all_map, ec, k1, d1, o1, -Int.natCast_add]
      exact .i ⟨_, _, by rw [eo, o1]; simp only [Option.toList, List.append_nil]; rfl⟩
    | some y =>
      rw [h1] at d1
      simp only [Option.map_some] at d1
      cases h2 : B (a + i) b with
      | none =>
        have o1 : opt1 (wAt g tg) B a b (a + i) = none := by unfold opt1; rw [h1, h2]
        rw [h2] at d2
        simp only [Option.map_none] at d2
        simp [turnS, b_tables_for_L3, -List.map_map, -List.any_map, -List.all_map, ec, k1, d1, k2, d2, o1, -Int.natCast_add]
        exact .i ⟨_, _, by rw [eo, o1]; simp only [Option.toList, List.append_nil]; rfl⟩
      | some z =>
        have o1 : opt1 (wAt g tg) B a b (a + i) = some (pS (wAt g tg) (a + i) - pS (wAt g tg) a + y.1 + z.1, a + i) := by unfold opt1; rw [h1, h2]
        rw [h2] at d2
        simp only [Option.map_some] at d2
        simp [turnS, b_tables_for_L3, -List.map_map, -List.any_map, -List.all_map, ec, k1, d1, k2, d2, o1, s1, s2, -Int.natCast_add]
        exact ⟨b1, .i ⟨_, _, by rw [eo, o1]; simp only [Option.toList, List.map_append]; rfl⟩⟩
  · rintro e ⟨x16, x17, rfl⟩
    exact fin x16 x17
/-- a dict with one more range told -/
def putO (new : List (List Int × D)) (p : Nat × Nat) : Option (Int × Nat) → List (List Int × D)
  | some x => stG new [(p.1 : Int), (p.2 : Int)] (encP x)
  | none => new
def Part (T : Nat → Nat → Option (Int × Nat)) (pre : List (Nat × Nat)) (l : List (List Int × D)) : Prop := (∀ a b : Nat, lkG l [(a : Int), (b : Int)] = if (a, b) ∈ pre then (T a b).map encP else none) ∧ l.length ≤ pre.length
theorem Part.nil {T : Nat → Nat → Option (Int × Nat)} : Part T [] [] := ⟨fun a b => by simp [lkG], Nat.le_refl _⟩
theorem Part.put {T : Nat → Nat → Option (Int × Nat)} {pre : List (Nat × Nat)} {l : List (List Int × D)} (h : Part T pre l) (p : Nat × Nat) : Part T (pre ++ [p]) (putO l p (T p.1 p.2)) := by
  constructor
  · intro a b
    have h1 := h.1 a b
    cases e : T p.1 p.2 with
    | none =>
      show lkG l _ = _
      rw [h1]
      by_cases q : (a, b) ∈ pre
      · rw [if_pos q, if_pos (List.mem_append_left _ q)]
      · rw [if_neg q]
        by_cases q2 : (a, b) = p
        · subst q2
          rw [e]
          split <;> rfl
        · rw [if_neg fun z => by
            rcases List.mem_append.mp z with z | z
            · exact q z
            · exact q2 (List.mem_singleton.mp z)]
    | some x =>
      show lkG (stG l _ _) _ = _
      rw [lk_st]
      by_cases q2 : (a, b) = p
      · subst q2
        rw [if_pos rfl, if_pos (List.mem_append_right _ (List.mem_singleton.mpr rfl))]
        simp only at e
        rw [e]; rfl
      · rw [if_neg fun z => q2 (by obtain ⟨z1, z2⟩ := key_inj z; exact Prod.ext z1.symm z2.symm), h1]
        by_cases q : (a, b) ∈ pre
        · rw [if_pos q, if_pos (List.mem_append_left _ q)]
        · rw [if_neg q, if_neg fun z => by
            rcases List.mem_append.mp z with z | z
            · exact q z
            · exact q2 (List.mem_singleton.mp z)]
  · have := h.2
    cases T p.1 p.2 with
    | none => show l.length ≤ _; rw [List.length_append]; simp; omega
    | some x =>
      have := st_len [(p.1 : Int), (p.2 : Int)] (encP x) l
      show (stG l _ _).length ≤ _
      rw [List.length_append]; simp; omega
theorem Part.tells {T : Nat → Nat → Option (Int × Nat)} {s : Nat} {l : List (List Int × D)} (h : Part T (partsOf s) l) : Tells T s l := Tells.of h.1
theorem range_turn {C : Calls} {g : Int → Int} {tg : List Int} {B : Nat → Nat → Option (Int × Nat)} {l : List (List Int × D)} (hT : Tells B tg.length l) {p : Nat × Nat} (hp : p.1 ≤ p.2 ∧ p.2 ≤ tg.length) (hlen : tg.length ≤ 12) {new : List (List Int × D)} (hn : new.length ≤ 1000) (x0 x1 x2 x3 x4 x6 x7 x9 x10 x11 x12 x13 x15 x16 x17 : Slot) :
    turnS C (.p2 (.v 9) (.v 10)) b_tables_for_L4 (encN p) [x0, x1, x2, x3, x4, .own (.list (sumsL g tg tg.length)), x6, x7, .own (.dict (kvG new)), x9, x10, x11, x12, x13, .val (.dict (kvG l)), x15, x16, x17] fun fl e2 => fl = .next ∧ Hd (fun e => ∃ x9 x10 x15 x16 x17, e = [x0, x1, x2, x3, x4, .own (.list (sumsL g tg tg.length)), x6, x7, .own (.dict (kvG (putO new p (minP (opts (wAt g tg) B p.1 p.2))))), x9, x10, x11, x12, x13, .val (.dict (kvG l)), x15, x16, x17]) ⟨⟩ e2 := by
  obtain ⟨a, b⟩ := p
  have s1 : smallI (a : Int) = true := decide_eq_true (show _ ∧ _ by simp only at hp; omega)
  have s2 : smallI ((b : Int) + 1) = true := decide_eq_true (show _ ∧ _ by simp only at hp; omega)
  have e1 : ((b : Int) + 1 - (a : Int)).toNat = b + 1 - a := by omega
  simp [turnS, b_tables_for_L4, -List.map_map, -List.any_map, -List.all_map, s1, s2, e1]
  refine opts_walk hT hp.1 hp.2 hlen _ _ _ _ _ _ _ _ _ _ _ _ _ fun x16 x17 => ?_
  have kk : kOk (kvG new) (.tuple [.int (a : Int), .int (b : Int)]) = true := kOk_G new [(a : Int), (b : Int)]
  have bb : new.length < big := by show _ < 1000000; omega
  cases hm : minP (opts (wAt g tg) B a b) with
  | none =>
    have he : opts (wAt g tg) B a b = [] := by
      cases h : opts (wAt g tg) B a b with
      | nil => rfl
      | cons x xs => rw [h] at hm; cases hm
    have c0 : dcmp .NotEq (.list []) (.list []) = some false := ne_l [] []
    simp [-List.map_map, -List.any_map, -List.all_map, he, c0]
    exact .i ⟨_, _, _, _, _, rfl⟩
  | some x =>
    have he : opts (wAt g tg) B a b ≠ [] := by intro h; rw [h] at hm; cases hm
    have c0 := ne_l0 (eqOk_p (opts (wAt g tg) B a b))
    have mn := min_p hm
    have ds : dstore (kvG new) (.tuple [.int (a : Int), .int (b : Int)]) (encP x) = kvG (stG new [(a : Int), (b : Int)] (encP x)) := dstore_G new [(a : Int), (b : Int)] (encP x)
    simp [-List.map_map, -List.any_map, -List.all_map, he, c0, mn, kk, bb, ds, -dp_min]
    exact .i ⟨_, _, _, _, _, rfl⟩
/-- the first table -/
theorem first_turn {C : Calls} {vs tg : List Int} {p : Nat × Nat} (hp : p.1 ≤ p.2 ∧ p.2 ≤ tg.length) (hlen : tg.length ≤ 12) {new : List (List Int × D)} (hn : new.length ≤ 1000) (x0 x1 x2 x3 x4 x5 x6 x7 x9 x10 x12 x13 x14 x15 x16 x17 : Slot) (h4 : x4 = .own (iL (pBreaks vs tg)) ∨ x4 = .val (iL (pBreaks vs tg))) :
    turnS C (.p2 (.v 9) (.v 10)) b_tables_for_L2 (encN p) [x0, x1, x2, x3, x4, x5, x6, x7, .own (.dict (kvG new)), x9, x10, .no, x12, x13, x14, x15, x16, x17] fun fl e2 => fl = .next ∧ Hd (fun e => ∃ x4 x9 x10, (x4 = .own (iL (pBreaks vs tg)) ∨ x4 = .val (iL (pBreaks vs tg))) ∧ e = [x0, x1, x2, x3, x4, x5, x6, x7, .own (.dict (kvG (putO new p (if clB vs tg p.1 p.2 then some (0, p.2) else none)))), x9, x10, .no, x12, x13, x14, x15, x16, x17]) ⟨⟩ e2 := by
  obtain ⟨a, b⟩ := p
  have hb := pBreaks_len vs tg
  have lg : (pBreaks vs tg).length ≤ 1000000 := by omega
  have kk : kOk (kvG new) (.tuple [.int (a : Int), .int (b : Int)]) = true := kOk_G new [(a : Int), (b : Int)]
  have bb : new.length < big := by show _ < 1000000; omega
  have ds : dstore (kvG new) (.tuple [.int (a : Int), .int (b : Int)]) (encP (0, b)) = kvG (stG new [(a : Int), (b : Int)] (encP (0, b))) := dstore_G new [(a : Int), (b : Int)] (encP (0, b))
  have hc : clB vs tg a b = decide ((pBreaks vs tg).filter (fun x => decide ((a : Int) < x) && decide (x < (b : Int))) = []) := by
    unfold clB
    rw [Bool.eq_iff_iff, List.all_eq_true, decide_eq_true_eq, List.filter_eq_nil_iff]
    refine forall_congr' fun x => forall_congr' fun _ => ?_
    simp
    omega
  have main : ∀ {R : D → Env → Prop} {x4' : Slot}, (∀ q : Bool, q = clB vs tg a b → R (.list (((pBreaks vs tg).filter (fun x => decide ((a : Int) < x) && decide (x < (b : Int)))).map PyData.int)) [x0, x1, x2, x3, x4', x5, x6, x7, .own (.dict (kvG new)), .val (.int a), .val (.int b), .no, x12, x13, x14, x15, x16, x17]) → wpLF C [11] (.v 11) (.v 11) (.cmp2 .Lt .Lt (.v 9) (.v 11) (.v 10)) ((pBreaks vs tg).map PyData.int) [x0, x1, x2, x3, x4', x5, x6, x7, .own (.dict (kvG new)), .val (.int a), .val (.int b), .no, x12, x13, x14, x15, x16, x17] R := fun h => by
    refine lcf_wp (fun x => decide ((a : Int) < x) && decide (x < (b : Int))) (fun x => .int x) (fun x hx => ?_) (h _ rfl)
    by_cases q1 : (a : Int) < x <;> by_cases q2 : x < (b : Int) <;> simp [-List.map_map, -List.any_map, -List.all_map, q1, q2]
  rcases h4 with rfl | rfl
  all_goals
    simp [turnS, b_tables_for_L2, -List.map_map, -List.any_map, -List.all_map, lg]
    refine main fun q hq => ?_
    have c0 := eq_l0 (eqOk_ints ((pBreaks vs tg).filter (fun x => decide ((a : Int) < x) && decide (x < (b : Int)))))
    by_cases h : (pBreaks vs tg).filter (fun x => decide ((a : Int) < x) && decide (x < (b : Int))) = []
    · have cb : clB vs tg a b = true := by rw [hc]; exact decide_eq_true h
      have h'' : decide (((pBreaks vs tg).filter (fun x => decide ((a : Int) < x) && decide (x < (b : Int)))).map PyData.int = []) = true := decide_eq_true (by rw [h]; rfl)
      rw [h''] at c0
      simp [-List.map_map, -List.any_map, -List.all_map, kk, bb, c0, ds]
      exact .i ⟨_, _, _, .inr rfl, by rw [cb]; rfl⟩
    · have cb : clB vs tg a b = false := by rw [hc]; exact decide_eq_false h
      have h' : ¬ (((pBreaks vs tg).filter (fun x => decide ((a : Int) < x) && decide (x < (b : Int)))).map PyData.int = []) := by simpa using h
      have h'' : decide (((pBreaks vs tg).filter (fun x => decide ((a : Int) < x) && decide (x < (b : Int)))).map PyData.int = []) = false := decide_eq_false h'
      rw [h''] at c0
      simp [-List.map_map, -List.any_map, -List.all_map, c0]
      exact .i ⟨_, _, _, .inr rfl, by rw [cb]; rfl⟩
end
end BT
namespace BT
open PySem
section
variable {T : Tab} {k : Nat}
theorem tabs_snoc {g : Int → Int} {vs tg : List Int} {ls : List (List (List Int × D))} {l : List (List Int × D)} (h : TabsOk g vs tg ls) (hl : Tells (bt (wAt g tg) (clB vs tg) ls.length) tg.length l) : TabsOk g vs tg (ls ++ [l]) := by
  intro i q hq
  by_cases hi : i < ls.length
  · rw [List.getElem?_append_left hi] at hq
    exact h i q hq
  · rw [List.getElem?_append_right (by omega)] at hq
    have : i = ls.length := by
      have := (List.getElem?_eq_some_iff.mp hq).1
      simp at this; omega
    subst this
    simp at hq
    subst hq
    exact hl
theorem tablesfor_ok (B : Base T) (hk : 2 ≤ k) {vs tg ws : List Int} (hp : tg.Perm vs) (hv : vs.length ≤ 12) (hw : ws.length = vs.length) (n : Nat) (hn : n ≤ 1000) :
    ∃ ls, callk T k "tables_for" [iT vs, iT tg, iT ws, .int n] .none = .ok (.list (tabsD ls)) .none ∧ ls.length = n + 1 ∧ TabsOk (wt vs ws) vs tg ls := by
  suffices h : wpC (callk T k) "tables_for" [iT vs, iT tg, iT ws, .int n] .none fun d s => s = .none ∧ ∃ ls, d = .list (tabsD ls) ∧ ls.length = n + 1 ∧ TabsOk (wt vs ws) vs tg ls by
    obtain ⟨d, s, e, rfl, ls, rfl, h⟩ := wC_ex.mp h
    exact ⟨ls, e, h⟩
  refine wC_runh (by omega) (B.ext _ _ tt_tables_for) rfl fun j hj => ?_
  have hlt : tg.length ≤ 12 := by rw [hp.length_eq]; exact hv
  have hb := pBreaks_len vs tg
  have br := breaksof_ok B (k := j) (show 1 ≤ j by omega) (perm_in hp) (show tg.length ≤ 1000 by omega)
  have ap := allparts_ok B (k := j) (show 1 ≤ j by omega) tg.length (by omega)
  have hpl := parts_len tg.length
  have hpl2 : (partsOf tg.length).length ≤ 169 := Nat.le_trans hpl (Nat.mul_le_mul (show tg.length + 1 ≤ 13 by omega) (show tg.length + 1 ≤ 13 by omega))
  generalize callk T j = C at br ap
  simp [f_tables_for, b_tables_for, -List.map_map, -List.any_map, -List.all_map, wC_eq br]
  refine for_pre (fun pre e => ∃ x6, e = [.val (iT vs), .val (iT tg), .val (iT ws), .val (.int n), .own (iL (pBreaks vs tg)), .own (.list (sumsL (wt vs ws) tg pre.length)), x6, .no, .no, .no, .no, .no, .no, .no, .no, .no, .no, .no]) ⟨_, rfl⟩ ?_ ?_
  · rintro pre a post htg e ⟨x6, rfl⟩
    have ha : a ∈ vs := hp.mem_iff.mp (by rw [htg]; simp)
    have hpl : pre.length ≤ 12 := by have := congrArg List.length htg; simp at this; omega
    have lb : (sumsL (wt vs ws) tg pre.length).length < big := by rw [sums_len]; show _ < 1000000; omega
    have e1 := pS_step (wt vs ws) tg htg
    simp [turnS, b_tables_for_L1, -List.map_map, -List.any_map, -List.all_map, sums_last, ha, wt_at hw ha, lb]
    exact .i ⟨.val (.int a), by rw [List.length_append, List.length_singleton, sums_s, e1]⟩
  · rintro e ⟨x6, rfl⟩
    simp [-List.map_map, -List.any_map, -List.all_map, wC_eq ap]
    refine for_pre (fun pre e => ∃ l x4 x9 x10, (x4 = .own (iL (pBreaks vs tg)) ∨ x4 = .val (iL (pBreaks vs tg))) ∧ e = [.val (iT vs), .val (iT tg), .val (iT ws), .val (.int n), x4, .own (.list (sumsL (wt vs ws) tg tg.length)), x6, .val (.list ((partsOf tg.length).map encN)), .own (.dict (kvG l)), x9, x10, .no, .no, .no, .no, .no, .no, .no] ∧ Part (bt (wAt (wt vs ws) tg) (clB vs tg) 0) pre l) ⟨[], _, _, _, .inl rfl, rfl, Part.nil⟩ ?_ ?_
    · rintro pre p post hps e ⟨l, x4, x9, x10, h4, rfl, hP⟩
      have hpm : p ∈ partsOf tg.length := by rw [hps]; simp
      have hpl : pre.length ≤ 169 := by have := congrArg List.length hps; simp at this; omega
      obtain ⟨e1, b1, b2⟩ := first_turn (C := C) (vs := vs) (parts_mem.mp hpm) hlt (new := l) (by have := hP.2; omega) (.val (iT vs)) (.val (iT tg)) (.val (iT ws)) (.val (.int n)) x4 (.own (.list (sumsL (wt vs ws) tg tg.length))) x6 (.val (.list ((partsOf tg.length).map encN))) x9 x10 .no .no .no .no .no .no h4
      exact ⟨e1, b1, wR_imp b2 fun fl e2 ⟨hf, x4', x9', x10', h4', he⟩ => ⟨hf, .i ⟨_, x4', x9', x10', h4', he, hP.put p⟩⟩⟩
    · rintro e ⟨l0, x4, x9, x10, h4, rfl, hP⟩
      have sn : smallI (n : Int) = true := decide_eq_true (show _ ∧ _ by omega)
      simp [-List.map_map, -List.any_map, -List.all_map, sn]
      refine for_h (fun i e => ∃ ls x8 x9 x10 x13 x14 x15 x16 x17, e = [.val (iT vs), .val (iT tg), .val (iT ws), .val (.int n), x4, .own (.list (sumsL (wt vs ws) tg tg.length)), x6, .val (.list ((partsOf tg.length).map encN)), x8, x9, x10, .no, .own (.list (tabsD ls)), x13, x14, x15, x16, x17] ∧ ls.length = i + 1 ∧ TabsOk (wt vs ws) vs tg ls) ⟨[l0], _, _, _, _, _, _, _, _, rfl, rfl, ?_⟩ ?_ ?_
      · have := tabs_snoc (ls := []) (l := l0) (g := wt vs ws) (vs := vs) (tg := tg) (fun i l h => by simp at h) hP.tells
        exact this
      · rintro i hi e ⟨ls, x8, x9, x10, x13, x14, x15, x16, x17, rfl, hls, hT⟩
        have hi : i < n := by simpa [rngL] using hi
        have hne : ls ≠ [] := by intro h; rw [h] at hls; simp at hls
        obtain ⟨l, hl⟩ : ∃ l, ls.getLast? = some l := ⟨_, List.getLast?_eq_some_getLast hne⟩
        have hli : ls[i]? = some l := by rw [List.getLast?_eq_getElem?, hls] at hl; simpa using hl
        have tl := hT i l hli
        simp [turnS, b_tables_for_L5, -List.map_map, -List.any_map, -List.all_map, rngL, hl]
        refine for_pre (fun pre e => ∃ new x9 x10 x15 x16 x17, e = [.val (iT vs), .val (iT tg), .val (iT ws), .val (.int n), x4, .own (.list (sumsL (wt vs ws) tg tg.length)), x6, .val (.list ((partsOf tg.length).map encN)), .own (.dict (kvG new)), x9, x10, .no, .own (.list (tabsD ls)), .val (.int i), .val (.dict (kvG l)), x15, x16, x17] ∧ Part (bt (wAt (wt vs ws) tg) (clB vs tg) (i + 1)) pre new) ⟨[], _, _, _, _, _, rfl, Part.nil⟩ ?_ ?_
        · rintro pre p post hps e ⟨new, x9, x10, x15, x16, x17, rfl, hP⟩
          have hpm : p ∈ partsOf tg.length := by rw [hps]; simp
          have hpl : pre.length ≤ 169 := by have := congrArg List.length hps; simp at this; omega
          obtain ⟨e1, b1, b2⟩ := range_turn (C := C) tl (parts_mem.mp hpm) hlt (new := new) (by have := hP.2; omega) (.val (iT vs)) (.val (iT tg)) (.val (iT ws)) (.val (.int n)) x4 x6 (.val (.list ((partsOf tg.length).map encN))) x9 x10 .no (.own (.list (tabsD ls))) (.val (.int i)) x15 x16 x17
          exact ⟨e1, b1, wR_imp b2 fun fl e2 ⟨hf, x9', x10', x15', x16', x17', he⟩ => ⟨hf, .i ⟨_, x9', x10', x15', x16', x17', he, hP.put p⟩⟩⟩
        · rintro e ⟨new, x9, x10, x15, x16, x17, rfl, hP⟩
          have bl : ls.length < big := by show _ < 1000000; omega
          simp [-List.map_map, -List.any_map, -List.all_map, bl]
          refine .i ⟨ls ++ [new], _, _, _, _, _, _, _, _, by rw [show tabsD (ls ++ [new]) = tabsD ls ++ [.dict (kvG new)] from List.map_append ..], by simp [hls], tabs_snoc hT ?_⟩
          rw [hls]
          exact hP.tells
      · rintro e ⟨ls, x8, x9, x10, x13, x14, x15, x16, x17, rfl, hls, hT⟩
        have hr : (rngL 0 n).length = n := rngL_len
        rw [hr] at hls
        simp [-List.map_map, -List.any_map, -List.all_map]
        exact .i ⟨rfl, ls, rfl, hls, hT⟩
def oC : Option (Int × Nat) → D
  | some x => .int x.1
  | none => .none
theorem costfor_ok (B : Base T) (hk : 3 ≤ k) {vs tg ws : List Int} (hp : tg.Perm vs) (hv : vs.length ≤ 12) (hw : ws.length = vs.length) (n : Nat) (hn : n ≤ 1000) :
    callk T k "cost_for" [iT vs, iT tg, iT ws, .int n] .none = .ok (oC (bt (wAt (wt vs ws) tg) (clB vs tg) n 0 tg.length)) .none := by
  refine wC_is (wC_runk (by omega) (B.ext _ _ tt_cost_for) rfl fun j hj => ?_)
  obtain ⟨ls, h1, h2, h3⟩ := tablesfor_ok B (k := j) (by omega) hp hv hw n hn
  have hlt : n < ls.length := by omega
  have hT := h3 n ls[n] (List.getElem?_eq_getElem hlt) 0 tg.length
  rw [if_pos ⟨Nat.zero_le _, Nat.le_refl _⟩] at hT
  have kk : kOk (kvG ls[n]) (.tuple [.int 0, .int (tg.length : Int)]) = true := kOk_G ls[n] [0, (tg.length : Int)]
  have dd : dlook (kvG ls[n]) (.tuple [.int 0, .int (tg.length : Int)]) = _ := dlook_G ls[n] [0, (tg.length : Int)]
  have e0 : [(0 : Int), (tg.length : Int)] = [((0 : Nat) : Int), (tg.length : Int)] := rfl
  rw [e0, hT] at dd
  cases hb : bt (wAt (wt vs ws) tg) (clB vs tg) n 0 tg.length with
  | none =>
    rw [hb] at dd
    simp only [Option.map_none] at dd
    simp [f_cost_for, b_cost_for, -List.map_map, -List.any_map, -List.all_map, wC_eq h1, hlt, kk, dd, oC]
  | some x =>
    rw [hb] at dd
    simp only [Option.map_some] at dd
    simp [f_cost_for, b_cost_for, -List.map_map, -List.any_map, -List.all_map, wC_eq h1, hlt, kk, dd, oC]
def GoodW (vs ws : List Int) : Prop := ws.length = vs.length ∧ ∀ w ∈ ws, 1 ≤ w ∧ w ≤ 1000
theorem checkweights_ok (B : Base T) (hk : 2 ≤ k) {vs ws : List Int} (hv : vs.length ≤ 12) (gw : GoodW vs ws) : callk T k "check_weights" [iT vs, iT ws] .none = .ok .none .none := by
  refine wC_is (wC_runk (by omega) (B.ext _ _ tt_check_weights) rfl fun j hj => ?_)
  have lg : ws.length ≤ 1000000 := by rw [gw.1]; omega
  have lg2 : vs.length ≤ 1000000 := by omega
  simp [f_check_weights, b_check_weights, -List.map_map, -List.any_map, -List.all_map, gw.1, lg, lg2]
  refine lc_wp (fun v => .bool true) (fun v hv' => ?_) ?_
  · have h := gw.2 v hv'
    simp [-List.map_map, -List.any_map, -List.all_map, wC_eq (between_ok B (show 1 ≤ j by omega) v 1 1000), h.1, h.2]
  · simp [-List.map_map, -List.any_map, -List.all_map]
theorem checkall_ok (B : Base T) (hk : 5 ≤ k) {vs tg ws : List Int} (g : GoodL vs) (hp : tg.Perm vs) (gw : GoodW vs ws) : callk T k "check_all" [iT vs, iT tg, iT ws] .none = .ok .none .none := by
  refine wC_is (wC_runk (by omega) (B.ext _ _ tt_check_all) rfl fun j hj => ?_)
  simp [f_check_all, b_check_all, -List.map_map, -List.any_map, -List.all_map, wC_eq (checklist_ok B (show 3 ≤ j by omega) g), wC_eq (checktarget_ok B (show 4 ≤ j by omega) g hp), wC_eq (checkweights_ok B (show 2 ≤ j by omega) g.2.1 gw)]
/-- the least cost as it is told -/
def lc (vs tg ws : List Int) (n : Nat) : D := oC (bt (wAt (wt vs ws) tg) (clB vs tg) n 0 tg.length)
theorem leastcost_ok (B : Base T) (hk : 6 ≤ k) {vs tg ws : List Int} (g : GoodL vs) (hp : tg.Perm vs) (gw : GoodW vs ws) (n : Nat) (hn : n ≤ 30) : callk T k "least_cost" [iT vs, iT tg, iT ws, .int n] .none = .ok (lc vs tg ws n) .none := by
  refine wC_is (wC_runk (by omega) (B.ext _ _ tt_least_cost) rfl fun j hj => ?_)
  have cf := costfor_ok B (k := j) (by omega) hp g.2.1 gw.1 n (by omega)
  simp [f_least_cost, b_least_cost, -List.map_map, -List.any_map, -List.all_map, wC_eq (checkall_ok B (show 5 ≤ j by omega) g hp gw), wC_eq (checknumber_ok B (show 2 ≤ j by omega) n hn), wC_eq cf, lc]
end
end BT
namespace BT
open PySem
/-! ## the cheapest plan, read off the tables -/
def chain (c : Nat) : List (Nat × Nat) → Nat → Prop
  | [], L => c = L
  | p :: ps, L => p.1 = c ∧ p.1 < p.2 ∧ chain p.2 ps L
section
variable {w : Nat → Int} {cl : Nat → Nat → Bool} {br : Nat → Prop}
variable (w cl) in
/-- where a range is split with n + 1 moves -/
def spl (n : Nat) (p : Nat × Nat) : Nat := match bt w cl (n + 1) p.1 p.2 with
  | some x => x.2
  | none => p.1
variable (w cl) in
def nxt (n : Nat) (ps : List (Nat × Nat)) : List (Nat × Nat) := (ps.flatMap fun p => [(p.1, spl w cl n p), (spl w cl n p, p.2)]).filter fun p => decide (p.1 < p.2)
/-- the ranges fit the labels' lower digits -/
def FitP (w : Nat → Int) (cl : Nat → Nat → Bool) (Lb : Nat → Nat) (n : Nat) (ps : List (Nat × Nat)) : Prop := ∀ p ∈ ps, p.1 ≤ p.2 ∧ (∃ x, bt w cl n p.1 p.2 = some x) ∧ ∀ i, p.1 ≤ i → i < p.2 → Lb i % 2 ^ n = lab w cl n p.1 p.2 i
theorem spl_ok {n : Nat} {p : Nat × Nat} {x : Int × Nat} (h : bt w cl (n + 1) p.1 p.2 = some x) : spl w cl n p = x.2 := by unfold spl; rw [h]
theorem fit_split (hcl : ∀ a b, cl a b = true ↔ Cln br a b) {Lb : Nat → Nat} {n : Nat} {ps : List (Nat × Nat)} (h : FitP w cl Lb (n + 1) ps) {p : Nat × Nat} (hp : p ∈ ps) :
    p.1 ≤ spl w cl n p ∧ spl w cl n p ≤ p.2 ∧ (∃ y, bt w cl n p.1 (spl w cl n p) = some y) ∧ (∃ z, bt w cl n (spl w cl n p) p.2 = some z) ∧
    (∀ i, p.1 ≤ i → i < spl w cl n p → Lb i / 2 ^ n % 2 = 0 ∧ Lb i % 2 ^ n = lab w cl n p.1 (spl w cl n p) i) ∧ (∀ i, spl w cl n p ≤ i → i < p.2 → Lb i / 2 ^ n % 2 = 1 ∧ Lb i % 2 ^ n = lab w cl n (spl w cl n p) p.2 i) := by
  obtain ⟨h0, ⟨x, hx⟩, h1⟩ := h p hp
  obtain ⟨y, z, a1, a2, a3, a4, _⟩ := bt_split hx
  rw [spl_ok hx]
  have f1 := (lab_ok hcl n a1 a3).1.1
  have f2 := (lab_ok hcl n a2 a4).1.1
  have dig : ∀ v : Nat, v / 2 ^ n % 2 = v % 2 ^ (n + 1) / 2 ^ n ∧ v % 2 ^ n = v % 2 ^ (n + 1) % 2 ^ n := fun v => by
    constructor
    · rw [Nat.pow_succ, Nat.mod_mul_right_div_self]
    · rw [Nat.mod_mod_of_dvd _ ⟨2, by rw [Nat.pow_succ]⟩]
  refine ⟨a1, a2, ⟨y, a3⟩, ⟨z, a4⟩, fun i g1 g2 => ?_, fun i g1 g2 => ?_⟩
  · have e := h1 i g1 (by omega)
    rw [lab_s hx, if_pos g2] at e
    have := f1 i g1 g2
    rw [(dig (Lb i)).1, (dig (Lb i)).2, e, Nat.div_eq_of_lt this, Nat.mod_eq_of_lt this]
    exact ⟨rfl, rfl⟩
  · have e := h1 i (by omega) g2
    rw [lab_s hx, if_neg (by omega)] at e
    have := f2 i g1 g2
    rw [(dig (Lb i)).1, (dig (Lb i)).2, e]
    constructor
    · rw [Nat.add_div_left _ (Nat.two_pow_pos n), Nat.div_eq_of_lt this]
    · rw [Nat.add_mod_left, Nat.mod_eq_of_lt this]
theorem fit_next (hcl : ∀ a b, cl a b = true ↔ Cln br a b) {Lb : Nat → Nat} {n : Nat} {ps : List (Nat × Nat)} (h : FitP w cl Lb (n + 1) ps) : FitP w cl Lb n (nxt w cl n ps) := by
  intro q hq
  obtain ⟨h1, h2⟩ := List.mem_filter.mp hq
  obtain ⟨p, hp, h3⟩ := List.mem_flatMap.mp h1
  obtain ⟨a1, a2, a3, a4, a5, a6⟩ := fit_split hcl h hp
  simp only [List.mem_cons, List.not_mem_nil, or_false] at h3
  rcases h3 with rfl | rfl
  · exact ⟨a1, a3, fun i g1 g2 => (a5 i g1 g2).2⟩
  · exact ⟨a2, a4, fun i g1 g2 => (a6 i g1 g2).2⟩
theorem chain_next : ∀ {ps : List (Nat × Nat)} {c L n : Nat}, chain c ps L → (∀ p ∈ ps, p.1 ≤ spl w cl n p ∧ spl w cl n p ≤ p.2) → chain c (nxt w cl n ps) L
  | [], c, L, n, h, _ => h
  | p :: ps, c, L, n, ⟨h1, h2, h3⟩, hs => by
    have ih := chain_next (n := n) h3 fun q hq => hs q (List.mem_cons_of_mem _ hq)
    obtain ⟨s1, s2⟩ := hs p List.mem_cons_self
    unfold nxt at ih ⊢
    rw [List.flatMap_cons, List.filter_append]
    by_cases e1 : p.1 < spl w cl n p
    · by_cases e2 : spl w cl n p < p.2
      · simp only [List.filter_cons, List.filter_nil, decide_eq_true e1, decide_eq_true e2, if_true]
        exact ⟨h1, e1, rfl, e2, ih⟩
      · have e3 : spl w cl n p = p.2 := by omega
        simp only [List.filter_cons, List.filter_nil, decide_eq_true e1, decide_eq_false e2, if_true]
        simp only [Bool.false_eq_true, if_false, List.singleton_append]
        exact ⟨h1, e1, by rw [e3]; exact ih⟩
    · have e3 : spl w cl n p = p.1 := by omega
      have e2 : spl w cl n p < p.2 := by omega
      simp only [List.filter_cons, List.filter_nil, decide_eq_false e1, decide_eq_true e2, if_true]
      simp only [Bool.false_eq_true, if_false, List.singleton_append]
      exact ⟨by rw [e3]; exact h1, e2, ih⟩
variable (w cl) in
/-- the places that are selected -/
def selR (n : Nat) (ps : List (Nat × Nat)) : List Nat := ps.flatMap fun p => (List.range (spl w cl n p - p.1)).map fun i => p.1 + i
theorem chain_sel (bit : Nat → Bool) : ∀ {ps : List (Nat × Nat)} {c L n : Nat}, c ≤ L → chain c ps L → (∀ p ∈ ps, p.1 ≤ spl w cl n p ∧ spl w cl n p ≤ p.2 ∧ (∀ i, p.1 ≤ i → i < spl w cl n p → bit i = true) ∧ ∀ i, spl w cl n p ≤ i → i < p.2 → bit i = false) →
    ((List.range (L - c)).map fun i => c + i).filter bit = selR w cl n ps
  | [], c, L, n, _, h, _ => by
    have : L - c = 0 := by have : c = L := h; omega
    rw [this]; rfl
  | p :: ps, c, L, n, hcL, ⟨h1, h2, h3⟩, hs => by
    have le : ∀ {qs : List (Nat × Nat)} {d : Nat}, chain d qs L → d ≤ L := fun {qs} => by
      induction qs with
      | nil => intro d h; exact Nat.le_of_eq h
      | cons q qs ih => intro d h; have := ih h.2.2; have := h.1; have := h.2.1; omega
    have hl := le h3
    have ih := chain_sel bit (n := n) hl h3 fun q hq => hs q (List.mem_cons_of_mem _ hq)
    obtain ⟨s1, s2, s3, s4⟩ := hs p List.mem_cons_self
    unfold selR at ih ⊢
    rw [List.flatMap_cons, ← ih]
    have e : L - c = (spl w cl n p - p.1) + ((p.2 - spl w cl n p) + (L - p.2)) := by omega
    rw [e, List.range_add, List.range_add, List.map_append, List.map_append, List.map_map, List.map_append, List.map_map, List.map_map, List.filter_append, List.filter_append]
    congr 1
    · rw [List.filter_eq_self.mpr]
      · exact List.map_congr_left fun i _ => by omega
      · intro x hx
        obtain ⟨i, hi, rfl⟩ := List.mem_map.mp hx
        have := List.mem_range.mp hi
        exact s3 _ (by omega) (by omega)
    · have e2 : ((List.range (p.2 - spl w cl n p)).map ((fun i => c + i) ∘ fun x => spl w cl n p - p.1 + x)).filter bit = [] := by
        refine List.filter_eq_nil_iff.mpr fun x hx => ?_
        obtain ⟨i, hi, rfl⟩ := List.mem_map.mp hx
        have := List.mem_range.mp hi
        rw [s4 _ (by simp only [Function.comp]; omega) (by simp only [Function.comp]; omega)]
        exact Bool.false_ne_true
      rw [e2, List.nil_append]
      congr 1
      refine List.map_congr_left fun i _ => ?_
      simp only [Function.comp]
      omega
theorem chain_len : ∀ {ps : List (Nat × Nat)} {c L : Nat}, chain c ps L → ps.length + c ≤ L
  | [], c, L, h => by have : c = L := h; simp; omega
  | p :: ps, c, L, ⟨h1, h2, h3⟩ => by
    have := chain_len h3
    simp only [List.length_cons]; omega
theorem chain_in : ∀ {ps : List (Nat × Nat)} {c L : Nat}, chain c ps L → ∀ p ∈ ps, p.1 < p.2 ∧ p.2 ≤ L
  | [], _, _, _, p, hp => by cases hp
  | q :: ps, c, L, ⟨h1, h2, h3⟩, p, hp => by
    rcases List.mem_cons.mp hp with rfl | hp
    · have := chain_len h3; exact ⟨h2, by omega⟩
    · exact chain_in h3 p hp
end
/-- items of places -/
def itemsAt (tg : List Int) (is : List Nat) : List Int := is.map fun i => tg.getD i 0
theorem pSel_map (vs : List Int) (f : Int → Int) (j : Nat) : pSel vs (vs.map f) j = sortI (vs.filter fun v => decide (f v / 2 ^ j % 2 = 0)) := by
  unfold pSel
  congr 1
  induction vs with
  | nil => rfl
  | cons v vs ih =>
    rw [List.map_cons, List.zip_cons_cons, List.filter_cons, List.filter_cons]
    by_cases h : f v / 2 ^ j % 2 = 0
    · simp only [h, decide_true, if_true, List.map_cons, ih]
    · simp only [h, decide_false, Bool.false_eq_true, if_false, ih]
theorem filter_items (tg : List Int) (q : Int → Bool) : tg.filter q = itemsAt tg ((List.range tg.length).filter fun i => q (tg.getD i 0)) := by
  have e1 : tg = (List.range tg.length).map fun i => tg.getD i 0 := by
    have := map_rng (fun v => v) tg
    rwa [List.map_id'] at this
  have e2 : tg.filter q = ((List.range tg.length).map fun i => tg.getD i 0).filter q := by rw [← e1]
  rw [e2, List.filter_map]
  rfl
theorem sel_row {vs tg : List Int} (nd : vs.Nodup) (hp : tg.Perm vs) (Lb : Nat → Nat) (j : Nat) : sortI (itemsAt tg (((List.range tg.length)).filter fun i => decide (Lb i / 2 ^ j % 2 = 0))) = pSel vs (vs.map fun v => ((Lb (ix tg v) : Nat) : Int)) j := by
  have nt : tg.Nodup := hp.nodup_iff.mpr nd
  rw [pSel_map]
  refine sortI_congr ?_
  have e : itemsAt tg ((List.range tg.length).filter fun i => decide (Lb i / 2 ^ j % 2 = 0)) = tg.filter fun v => decide ((((Lb (ix tg v) : Nat) : Int)) / 2 ^ j % 2 = 0) := by
    rw [filter_items]
    congr 1
    refine List.filter_congr fun i hi => ?_
    have hi := List.mem_range.mp hi
    have e2 : tg.getD i 0 = tg[i] := by simp [hi]
    have e3 : ix tg tg[i] = i := nt.idxOf_getElem i hi
    refine decide_eq_decide.mpr ?_
    rw [e2, e3]
    have : ((Lb i : Nat) : Int) / 2 ^ j % 2 = ((Lb i / 2 ^ j % 2 : Nat) : Int) := by rw [Int.natCast_emod, Int.natCast_ediv]; simp
    rw [this]; omega
  rw [e]
  exact hp.filter _
end BT
namespace BT
open PySem
theorem cut_ab {xs : List D} {a m : Nat} (h1 : a ≤ m) (h2 : m ≤ xs.length) : cutD xs (some (a : Int)) (some (m : Int)) = (xs.drop a).take (m - a) := by
  unfold cutD
  simp only [sIx]
  rw [if_pos (by omega), if_pos (by omega)]
  congr 1
  · rw [Int.toNat_natCast, Int.toNat_natCast]; omega
  · rw [Int.toNat_natCast]; congr 1; omega
theorem items_cut (tg : List Int) {a m : Nat} (h1 : a ≤ m) (h2 : m ≤ tg.length) : ((tg.map PyData.int).drop a).take (m - a) = (itemsAt tg ((List.range (m - a)).map fun i => a + i)).map PyData.int := by
  refine List.ext_getElem ?_ fun i g1 g2 => ?_
  · simp [itemsAt]; omega
  · have hi : i < m - a := by simp [itemsAt] at g2; omega
    have : a + i < tg.length := by omega
    simp [itemsAt, this]
theorem rev_range {α : Type} (f : Nat → α) (n : Nat) : ((List.range n).map fun t => f (n - 1 - t)).reverse = (List.range n).map f := by
  refine List.ext_getElem (by simp) fun i h1 h2 => ?_
  have hi : i < n := by simpa using h2
  simp
  congr 1
  omega
section
variable {T : Tab} {k : Nat}
/-- one range of one level -/
theorem part_turn {C : Calls} {g : Int → Int} {vs tg : List Int} {ls : List (List (List Int × D))} (hT : TabsOk g vs tg ls) {n : Nat} {l : List (List Int × D)} (hl : ls[n + 1]? = some l) (hlen : tg.length ≤ 12) {p : Nat × Nat} (hp1 : p.1 ≤ p.2 ∧ p.2 ≤ tg.length) {x : Int × Nat} (hx : bt (wAt g tg) (clB vs tg) (n + 1) p.1 p.2 = some x)
    (sel : List Int) (later : List (Nat × Nat)) (hs : sel.length ≤ 1000) (hla : later.length ≤ 1000) (x0 x2 x3 x5 x6 x10 x11 x12 x13 : Slot) :
    turnS C (.p2 (.v 10) (.v 11)) b_cheapest_plan_L1 (encN p) [x0, .val (iT tg), x2, x3, .val (.list (tabsD ls)), x5, x6, .val (.int ((n + 1 : Nat) : Int)), .own (iL sel), .own (.list (later.map encN)), x10, x11, x12, x13] fun fl e2 => fl = .next ∧ Hd (fun e => ∃ x10 x11 x12, e = [x0, .val (iT tg), x2, x3, .val (.list (tabsD ls)), x5, x6, .val (.int ((n + 1 : Nat) : Int)), .own (iL (sel ++ itemsAt tg ((List.range (spl (wAt g tg) (clB vs tg) n p - p.1)).map fun i => p.1 + i))), .own (.list ((later ++ [(p.1, spl (wAt g tg) (clB vs tg) n p), (spl (wAt g tg) (clB vs tg) n p, p.2)]).map encN)), x10, x11, x12, x13]) ⟨⟩ e2 := by
  obtain ⟨a, b⟩ := p
  obtain ⟨y, z, a1, a2, _⟩ := bt_split hx
  have hsp := spl_ok hx
  have tl := hT (n + 1) l hl a b
  rw [if_pos hp1, hx] at tl
  have kk : kOk (kvG l) (.tuple [.int (a : Int), .int (b : Int)]) = true := kOk_G l [(a : Int), (b : Int)]
  have dd : dlook (kvG l) (.tuple [.int (a : Int), .int (b : Int)]) = _ := dlook_G l [(a : Int), (b : Int)]
  rw [tl] at dd
  have dd : dlook (kvG l) (.tuple [.int (a : Int), .int (b : Int)]) = some (.tuple [.int x.1, .int (x.2 : Nat)]) := dd
  simp only at a1 a2 hp1
  have c1 := cut_ab (xs := tg.map PyData.int) (a := a) (m := x.2) a1 (by rw [List.length_map]; omega)
  rw [items_cut tg a1 (by omega)] at c1
  have hil : (itemsAt tg ((List.range (x.2 - a)).map fun i => a + i)).length = x.2 - a := by simp [itemsAt]
  have g1 : sel.length + (x.2 - a) ≤ 1000000 := by omega
  have g2 : later.length + 2 ≤ 1000000 := by omega
  have e7 : atD (tabsD ls) ((n + 1 : Nat) : Int) = some (.dict (kvG l)) := by
    rw [at_n, List.getElem?_map, hl]; rfl
  simp [turnS, b_cheapest_plan_L1, -List.map_map, -List.any_map, -List.all_map, e7, kk, dd, c1, hil, g1, g2, -Int.natCast_add, -at_n, -at_p]
  exact .i ⟨.val (.int a), .val (.int b), .val (.int x.2), by rw [hsp]; simp⟩
def oPl (g : Int → Int) (vs tg : List Int) (n : Nat) : Option (Int × Nat) → D
  | some _ => rT (bPlan g vs tg n)
  | none => .none
/-- one level -/
theorem level_turn {C : Calls} {g : Int → Int} {vs tg : List Int} {ls : List (List (List Int × D))} (hT : TabsOk g vs tg ls) (nd : vs.Nodup) (hp : tg.Perm vs) {N n : Nat} (hn : n < N) (hN : N ≤ 1000) (hls : ls.length = N + 1) (hlen : tg.length ≤ 12) (Lb : Nat → Nat) {ps : List (Nat × Nat)} (hc : chain 0 ps tg.length) (hf : FitP (wAt g tg) (clB vs tg) Lb (n + 1) ps)
    (x0 x2 x3 x5 x7 x8 x9 x10 x11 x12 : Slot) (h5 : x5 = .own (.list (ps.map encN)) ∨ x5 = .val (.list (ps.map encN))) (i : Nat) (hi : i + (n + 1) = N) :
    turnS C (.v 7) b_cheapest_plan_L2 (.int ((n + 1 : Nat) : Int)) [x0, .val (iT tg), x2, x3, .val (.list (tabsD ls)), x5, .own (.list (((List.range i).map fun t => pSel vs (vs.map fun v => ((Lb (ix tg v) : Nat) : Int)) (N - 1 - t)).map iT)), x7, x8, x9, x10, x11, x12, .no] fun fl e2 => fl = .next ∧ Hd (fun e => ∃ ps x5 x7 x8 x9 x10 x11 x12, (x5 = .own (.list (ps.map encN)) ∨ x5 = .val (.list (ps.map encN))) ∧ (0 < n → chain 0 ps tg.length ∧ FitP (wAt g tg) (clB vs tg) Lb n ps) ∧ e = [x0, .val (iT tg), x2, x3, .val (.list (tabsD ls)), x5, .own (.list (((List.range (i + 1)).map fun t => pSel vs (vs.map fun v => ((Lb (ix tg v) : Nat) : Int)) (N - 1 - t)).map iT)), x7, x8, x9, x10, x11, x12, .no]) ⟨⟩ e2 := by
  have hlt : n + 1 < ls.length := by omega
  have hl := List.getElem?_eq_getElem hlt
  have hin := chain_in hc
  have hpl := chain_len hc
  have bb : i < big := by show i < 1000000; omega
  have hcl := clB_iff vs tg
  have hsp : ∀ p ∈ ps, p.1 ≤ spl (wAt g tg) (clB vs tg) n p ∧ spl (wAt g tg) (clB vs tg) n p ≤ p.2 := fun p hp => ⟨(fit_split hcl hf hp).1, (fit_split hcl hf hp).2.1⟩
  have hrow : sortI (itemsAt tg (selR (wAt g tg) (clB vs tg) n ps)) = pSel vs (vs.map fun v => ((Lb (ix tg v) : Nat) : Int)) n := by
    rw [← sel_row nd hp Lb n]
    congr 2
    have := chain_sel (w := wAt g tg) (cl := clB vs tg) (fun i => decide (Lb i / 2 ^ n % 2 = 0)) (n := n) (Nat.zero_le _) hc fun p hp => by
      obtain ⟨a1, a2, a3, a4, a5, a6⟩ := fit_split hcl hf hp
      exact ⟨a1, a2, fun i g1 g2 => decide_eq_true (a5 i g1 g2).1, fun i g1 g2 => decide_eq_false (by rw [(a6 i g1 g2).1]; decide)⟩
    rw [← this, Nat.sub_zero]
    congr 1
    have e : (fun i => 0 + i) = fun i : Nat => i := by funext i; omega
    rw [e, List.map_id']
  have main : ∀ {R : Fl → Env → Prop}, (∀ x10 x11 x12, R .next [x0, .val (iT tg), x2, x3, .val (.list (tabsD ls)), .val (.list (ps.map encN)), .own (.list (((List.range i).map fun t => pSel vs (vs.map fun v => ((Lb (ix tg v) : Nat) : Int)) (N - 1 - t)).map iT)), .val (.int ((n + 1 : Nat) : Int)), .own (iL (itemsAt tg (selR (wAt g tg) (clB vs tg) n ps))), .own (.list ((ps.flatMap fun p => [(p.1, spl (wAt g tg) (clB vs tg) n p), (spl (wAt g tg) (clB vs tg) n p, p.2)]).map encN)), x10, x11, x12, .no]) →
      wpFor C (.p2 (.v 10) (.v 11)) b_cheapest_plan_L1 (ps.map encN) [x0, .val (iT tg), x2, x3, .val (.list (tabsD ls)), .val (.list (ps.map encN)), .own (.list (((List.range i).map fun t => pSel vs (vs.map fun v => ((Lb (ix tg v) : Nat) : Int)) (N - 1 - t)).map iT)), .val (.int ((n + 1 : Nat) : Int)), .own (.list []), .own (.list []), x10, x11, x12, .no] R := fun fin => by
    refine for_pre (fun pre e => ∃ x10 x11 x12, e = [x0, .val (iT tg), x2, x3, .val (.list (tabsD ls)), .val (.list (ps.map encN)), .own (.list (((List.range i).map fun t => pSel vs (vs.map fun v => ((Lb (ix tg v) : Nat) : Int)) (N - 1 - t)).map iT)), .val (.int ((n + 1 : Nat) : Int)), .own (iL (itemsAt tg (selR (wAt g tg) (clB vs tg) n pre))), .own (.list ((pre.flatMap fun p => [(p.1, spl (wAt g tg) (clB vs tg) n p), (spl (wAt g tg) (clB vs tg) n p, p.2)]).map encN)), x10, x11, x12, .no]) ⟨_, _, _, rfl⟩ ?_ ?_
    · rintro pre p post hps e ⟨x10, x11, x12, rfl⟩
      have hpm : p ∈ ps := by rw [hps]; simp
      obtain ⟨q1, ⟨x, hx⟩, _⟩ := hf p hpm
      have hprl : pre.length ≤ 12 := by have := congrArg List.length hps; simp at this; omega
      have hfl : (pre.flatMap fun p => [(p.1, spl (wAt g tg) (clB vs tg) n p), (spl (wAt g tg) (clB vs tg) n p, p.2)]).length ≤ 1000 := by
        rw [List.length_flatMap]
        have : ∀ l : List (Nat × Nat), (l.map fun p => [(p.1, spl (wAt g tg) (clB vs tg) n p), (spl (wAt g tg) (clB vs tg) n p, p.2)].length).sum = 2 * l.length := fun l => by
          induction l with
          | nil => rfl
          | cons a l ih => rw [List.map_cons, List.sum_cons, ih]; simp; omega
        rw [this]; omega
      have hsl : (itemsAt tg (selR (wAt g tg) (clB vs tg) n pre)).length ≤ 1000 := by
        unfold itemsAt selR
        rw [List.length_map, List.length_flatMap]
        have : ∀ l : List (Nat × Nat), (∀ p ∈ l, p ∈ ps) → (l.map fun p => ((List.range (spl (wAt g tg) (clB vs tg) n p - p.1)).map fun i => p.1 + i).length).sum ≤ 12 * l.length := fun l => by
          induction l with
          | nil => intro _; simp
          | cons a l ih =>
            intro hm
            have h1 := ih fun p hp => hm p (List.mem_cons_of_mem _ hp)
            have h2 := hsp a (hm a List.mem_cons_self)
            have h3 := hin a (hm a List.mem_cons_self)
            rw [List.map_cons, List.sum_cons, List.length_map, List.length_range, List.length_cons]
            omega
        have := this pre fun p hp => by rw [hps]; exact List.mem_append_left _ hp
        omega
      obtain ⟨e1, b1, b2⟩ := part_turn (C := C) hT hl hlen ⟨q1, (hin p hpm).2⟩ hx (itemsAt tg (selR (wAt g tg) (clB vs tg) n pre)) (pre.flatMap fun p => [(p.1, spl (wAt g tg) (clB vs tg) n p), (spl (wAt g tg) (clB vs tg) n p, p.2)]) hsl hfl x0 x2 x3 (.val (.list (ps.map encN))) (.own (.list (((List.range i).map fun t => pSel vs (vs.map fun v => ((Lb (ix tg v) : Nat) : Int)) (N - 1 - t)).map iT))) x10 x11 x12 .no
      refine ⟨e1, b1, wR_imp b2 fun fl e2 ⟨hfl2, x10', x11', x12', he⟩ => ⟨hfl2, .i ⟨x10', x11', x12', ?_⟩⟩⟩
      rw [he]
      have z1 : selR (wAt g tg) (clB vs tg) n (pre ++ [p]) = selR (wAt g tg) (clB vs tg) n pre ++ (List.range (spl (wAt g tg) (clB vs tg) n p - p.1)).map fun i => p.1 + i := by unfold selR; rw [List.flatMap_append]; simp
      rw [z1, List.flatMap_append]
      unfold itemsAt
      rw [List.map_append]
      simp
    · rintro e ⟨x10, x11, x12, rfl⟩
      exact fin x10 x11 x12
  have erow : (List.range (i + 1)).map (fun t => pSel vs (vs.map fun v => ((Lb (ix tg v) : Nat) : Int)) (N - 1 - t)) = (List.range i).map (fun t => pSel vs (vs.map fun v => ((Lb (ix tg v) : Nat) : Int)) (N - 1 - t)) ++ [pSel vs (vs.map fun v => ((Lb (ix tg v) : Nat) : Int)) n] := by
    rw [List.range_succ, List.map_append, List.map_singleton, show N - 1 - i = n by omega]
  have lg : (ps.flatMap fun p => [(p.1, spl (wAt g tg) (clB vs tg) n p), (spl (wAt g tg) (clB vs tg) n p, p.2)]).length ≤ 1000000 := by
    rw [List.length_flatMap]
    have : ∀ l : List (Nat × Nat), (l.map fun p => [(p.1, spl (wAt g tg) (clB vs tg) n p), (spl (wAt g tg) (clB vs tg) n p, p.2)].length).sum = 2 * l.length := fun l => by
      induction l with
      | nil => rfl
      | cons a l ih => rw [List.map_cons, List.sum_cons, ih]; simp; omega
    rw [this]; omega
  have key : wpFor C (.p2 (.v 10) (.v 11)) b_cheapest_plan_L1 (ps.map encN) [x0, .val (iT tg), x2, x3, .val (.list (tabsD ls)), .val (.list (ps.map encN)), .own (.list (((List.range i).map fun t => pSel vs (vs.map fun v => ((Lb (ix tg v) : Nat) : Int)) (N - 1 - t)).map iT)), .val (.int ((n + 1 : Nat) : Int)), .own (.list []), .own (.list []), x10, x11, x12, .no] (thenS C (.cons (.app 6 (.pr .tuple (.pr .sorted (.b 8)))) (.cons (.asg 5 (.ite (.cmp .Gt (.b 7) (.k (.int (1)))) (.v 9) (.lst .nil))) (.cons (.asg 5 (.lcf [13] (.v 13) (.v 13) (.e (.v 5)) (.cmp .Lt (.ix (.b 13) (.k (.int (0)))) (.ix (.b 13) (.k (.int (1))))))) .nil))) fun fl e2 => fl = .next ∧ Hd (fun e => ∃ ps x5 x7 x8 x9 x10 x11 x12, (x5 = .own (.list (ps.map encN)) ∨ x5 = .val (.list (ps.map encN))) ∧ (0 < n → chain 0 ps tg.length ∧ FitP (wAt g tg) (clB vs tg) Lb n ps) ∧ e = [x0, .val (iT tg), x2, x3, .val (.list (tabsD ls)), x5, .own (.list (((List.range (i + 1)).map fun t => pSel vs (vs.map fun v => ((Lb (ix tg v) : Nat) : Int)) (N - 1 - t)).map iT)), x7, x8, x9, x10, x11, x12, .no]) ⟨⟩ e2) := by
    refine main fun x10 x11 x12 => ?_
    simp only [w_th_n]
    by_cases h0 : n = 0
    · subst h0
      simp [-List.map_map, -List.any_map, -List.all_map, hrow, bb]
      refine lcf_wp (l := ([] : List Nat)) (enc := fun _ => PyData.none) (fun _ => true) (fun _ => .none) (fun v hv => by cases hv) ?_
      simp [-List.map_map, -List.any_map, -List.all_map]
      exact .i ⟨[], _, _, _, _, _, _, _, .inl rfl, fun h => absurd h (by omega), by rw [erow, List.map_append]; rfl⟩
    · have h1 : (1 : Int) < ((n + 1 : Nat) : Int) := by omega
      have h1' : (0 : Int) < (n : Int) := by omega
      have h1'' : 0 < n := by omega
      have h1b : (1 : Int) < (n : Int) + 1 := by omega
      simp [-List.map_map, -List.any_map, -List.all_map, hrow, bb, h1, h1', h1'', h1b, lg]
      refine ⟨by have := lg; rw [List.length_flatMap] at this; simpa using this, lcf_wp (fun p : Nat × Nat => decide (p.1 < p.2)) encN (fun p hp => ?_) ?_⟩
      · by_cases h : p.1 < p.2 <;> simp [-List.map_map, -List.any_map, -List.all_map, h]
      · simp [-List.map_map, -List.any_map, -List.all_map]
        exact .i ⟨nxt (wAt g tg) (clB vs tg) n ps, _, _, _, _, _, _, _, .inl rfl, fun _ => ⟨chain_next hc hsp, fit_next hcl hf⟩, by rw [erow, List.map_append]; rfl⟩
  rcases h5 with rfl | rfl
  all_goals
    simp [turnS, b_cheapest_plan_L2, -List.map_map, -List.any_map, -List.all_map, -Int.natCast_add]
    exact key
theorem cheapestplan_ok (B : Base T) (hk : 6 ≤ k) {vs tg ws : List Int} (g : GoodL vs) (hp : tg.Perm vs) (gw : GoodW vs ws) (n : Nat) (hn : n ≤ 30) :
    callk T k "cheapest_plan" [iT vs, iT tg, iT ws, .int n] .none = .ok (oPl (wt vs ws) vs tg n (bt (wAt (wt vs ws) tg) (clB vs tg) n 0 tg.length)) .none := by
  refine wC_is (wC_runk (by omega) (B.ext _ _ tt_cheapest_plan) rfl fun j hj => ?_)
  obtain ⟨ls, h1, h2, h3⟩ := tablesfor_ok B (k := j) (by omega) hp g.2.1 gw.1 n (by omega)
  have hlt : n < ls.length := by omega
  have hlen : tg.length ≤ 12 := by rw [hp.length_eq]; exact g.2.1
  have hpos : 1 ≤ tg.length := by rw [hp.length_eq]; exact g.1
  have hT := h3 n ls[n] (List.getElem?_eq_getElem hlt) 0 tg.length
  rw [if_pos ⟨Nat.zero_le _, Nat.le_refl _⟩] at hT
  have kk : kOk (kvG ls[n]) (.tuple [.int 0, .int (tg.length : Int)]) = true := kOk_G ls[n] [0, (tg.length : Int)]
  have dd : dlook (kvG ls[n]) (.tuple [.int 0, .int (tg.length : Int)]) = _ := dlook_G ls[n] [0, (tg.length : Int)]
  have e0 : [(0 : Int), (tg.length : Int)] = [((0 : Nat) : Int), (tg.length : Int)] := rfl
  rw [e0, hT] at dd
  have ca := checkall_ok B (k := j) (by omega) g hp gw
  have cn := checknumber_ok B (k := j) (by omega) n hn
  have sn : smallI (n : Int) = true := decide_eq_true (show _ ∧ _ by omega)
  cases hb : bt (wAt (wt vs ws) tg) (clB vs tg) n 0 tg.length with
  | none =>
    rw [hb] at dd
    simp only [Option.map_none] at dd
    simp [f_cheapest_plan, b_cheapest_plan, -List.map_map, -List.any_map, -List.all_map, wC_eq ca, wC_eq cn, wC_eq h1, hlt, kk, dd, oPl]
  | some x =>
    rw [hb] at dd
    simp only [Option.map_some] at dd
    have f1 := (lab_ok (clB_iff vs tg) n (Nat.zero_le _) hb).1.1
    have hf0 : FitP (wAt (wt vs ws) tg) (clB vs tg) (lab (wAt (wt vs ws) tg) (clB vs tg) n 0 tg.length) n [(0, tg.length)] := fun p hp => by
      rw [List.mem_singleton.mp hp]
      exact ⟨Nat.zero_le _, ⟨x, hb⟩, fun i g1 g2 => Nat.mod_eq_of_lt (f1 i g1 g2)⟩
    simp [f_cheapest_plan, b_cheapest_plan, -List.map_map, -List.any_map, -List.all_map, wC_eq ca, wC_eq cn, wC_eq h1, hlt, kk, dd, oPl, sn]
    unfold rngC
    generalize callk T j = C
    refine ⟨by decide, for_h (fun i e => ∃ ps x5 x7 x8 x9 x10 x11 x12, (x5 = .own (.list (ps.map encN)) ∨ x5 = .val (.list (ps.map encN))) ∧ (0 < n - i → chain 0 ps tg.length ∧ FitP (wAt (wt vs ws) tg) (clB vs tg) (lab (wAt (wt vs ws) tg) (clB vs tg) n 0 tg.length) (n - i) ps) ∧ e = [.val (iT vs), .val (iT tg), .val (iT ws), .val (.int n), .val (.list (tabsD ls)), x5, .own (.list (((List.range i).map fun t => pSel vs (vs.map fun v => ((lab (wAt (wt vs ws) tg) (clB vs tg) n 0 tg.length (ix tg v) : Nat) : Int)) (n - 1 - t)).map iT)), x7, x8, x9, x10, x11, x12, .no]) ⟨[(0, tg.length)], _, _, _, _, _, _, _, .inl rfl, fun _ => ⟨⟨rfl, by omega, rfl⟩, hf0⟩, rfl⟩ ?_ ?_⟩
    · rintro i hi e ⟨ps, x5, x7, x8, x9, x10, x11, x12, h5, hcf, rfl⟩
      have hi : i < n := by simpa using hi
      obtain ⟨hc, hf⟩ := hcf (by omega)
      obtain ⟨m, hm⟩ : ∃ m, n - i = m + 1 := ⟨n - i - 1, by omega⟩
      rw [hm] at hf
      have e7 : ((List.range n).map fun i : Nat => PyData.int ((n : Int) + (i : Int) * -1))[i]'(by simpa using hi) = .int ((m + 1 : Nat) : Int) := by
        rw [List.getElem_map, List.getElem_range]
        congr 1
        omega
      obtain ⟨e1, b1, b2⟩ := level_turn (C := C) h3 g.2.2.2 hp (N := n) (n := m) (by omega) (by omega) h2 hlen _ hc hf (.val (iT vs)) (.val (iT ws)) (.val (.int n)) x5 x7 x8 x9 x10 x11 x12 h5 i (by omega)
      have e8 : n - (i + 1) = m := by omega
      rw [e7]
      refine ⟨e1, b1, wR_imp b2 fun fl e2 ⟨hfl, q⟩ => ⟨hfl, ?_⟩⟩
      rw [e8]
      exact q
    · rintro e ⟨ps, x5, x7, x8, x9, x10, x11, x12, h5, hcf, rfl⟩
      have hr : ((List.range n).map fun i : Nat => PyData.int ((n : Int) + (i : Int) * -1)).length = n := by simp
      rw [hr]
      have er := rev_range (pSel vs (vs.map fun v => ((lab (wAt (wt vs ws) tg) (clB vs tg) n 0 tg.length (ix tg v) : Nat) : Int))) n
      have er2 : ((((List.range n).map fun t => pSel vs (vs.map fun v => ((lab (wAt (wt vs ws) tg) (clB vs tg) n 0 tg.length (ix tg v) : Nat) : Int)) (n - 1 - t)).map iT).reverse) = (bPlan (wt vs ws) vs tg n).map iT := by
        rw [← List.map_reverse, er]; rfl
      simp only [w_th_n]
      simp only [w_ret, w_pr, w_rev, w_b, rd_eq, slot_s, slot_z, rdS_own, wO_some, dr_l, er2, dp_tuple_l]
      exact ⟨rfl, rfl, rfl⟩
/-- the least cost as a number (0 where there is no plan) -/
def cN (vs tg ws : List Int) (n : Nat) : Int := match bt (wAt (wt vs ws) tg) (clB vs tg) n 0 tg.length with
  | some x => x.1
  | none => 0
theorem lc_some {vs tg ws : List Int} (g : GoodL vs) (hp : tg.Perm vs) {n : Nat} (h : mf (pBreaks vs tg).length ≤ n) : lc vs tg ws n = .int (cN vs tg ws n) := by
  have h0 : vs ≠ [] := by intro e; have := g.1; rw [e] at this; simp at this
  obtain ⟨x, hx⟩ := (bt_some_iff (g := wt vs ws) g.2.2.2 h0 hp n).mpr h
  unfold lc cN
  rw [hx]; rfl
theorem lc_none {vs tg ws : List Int} (g : GoodL vs) (hp : tg.Perm vs) {n : Nat} (h : n < mf (pBreaks vs tg).length) : lc vs tg ws n = .none := by
  have h0 : vs ≠ [] := by intro e; have := g.1; rw [e] at this; simp at this
  unfold lc
  cases hb : bt (wAt (wt vs ws) tg) (clB vs tg) n 0 tg.length with
  | none => rfl
  | some x =>
    have := (bt_some_iff (g := wt vs ws) g.2.2.2 h0 hp n).mp ⟨x, hb⟩
    omega
/-- how many numbers of moves are useful, from the fewest on -/
def tN (vs tg : List Int) : Nat := max (mf (pBreaks vs tg).length) (pBreaks vs tg).length + 1 - mf (pBreaks vs tg).length
theorem tradeoff_ok (B : Base T) (hk : 6 ≤ k) {vs tg ws : List Int} (g : GoodL vs) (hp : tg.Perm vs) (gw : GoodW vs ws) :
    callk T k "trade_off" [iT vs, iT tg, iT ws] .none = .ok (iL ((List.range (tN vs tg)).map fun i => cN vs tg ws (mf (pBreaks vs tg).length + i))) .none := by
  refine wC_is (wC_runk (by omega) (B.ext _ _ tt_trade_off) rfl fun j hj => ?_)
  have hlen : tg.length ≤ 12 := by rw [hp.length_eq]; exact g.2.1
  have hb := pBreaks_len vs tg
  have ca := checkall_ok B (k := j) (by omega) g hp gw
  have br := breaksof_ok B (k := j) (show 1 ≤ j by omega) (perm_in hp) (show tg.length ≤ 1000 by omega)
  have mv := movesfor_ok B (k := j) (by omega) (pBreaks vs tg).length (by omega)
  have hm : mf (pBreaks vs tg).length ≤ 4 := (mf_iff _ 4).mp (by omega)
  have s1 : smallI (mf (pBreaks vs tg).length : Nat) = true := decide_eq_true (show _ ∧ _ by omega)
  generalize hM : mf (pBreaks vs tg).length = M at mv hm s1
  generalize hL : (pBreaks vs tg).length = L at mv hb
  have e1 : (if M < L then (L : Int) else (M : Int)) + 1 = ((max M L + 1 : Nat) : Int) := by
    by_cases h : M < L
    · rw [if_pos h]; omega
    · rw [if_neg h]; omega
  have s2 : smallI ((max M L + 1 : Nat) : Int) = true := decide_eq_true (show _ ∧ _ by omega)
  have e2 : (((max M L + 1 : Nat) : Int) - (M : Int)).toNat = max M L + 1 - M := by omega
  have lg : max M L + 1 - M ≤ 1000000 := by omega
  have e3 : tN vs tg = max M L + 1 - M := by unfold tN; rw [hM, hL]
  simp [f_trade_off, b_trade_off, -List.map_map, -List.any_map, -List.all_map, wC_eq ca, wC_eq br, wC_eq mv, hL, -Int.natCast_add, e1, s1, s2, e2, lg, rngL, e3]
  refine lc_wp (fun i : Nat => .int (cN vs tg ws (M + i))) (fun i hi => ?_) ?_
  · have hi := List.mem_range.mp hi
    have ec : (M : Int) + (i : Int) = ((M + i : Nat) : Int) := by omega
    have cf := costfor_ok B (k := j) (by omega) hp g.2.1 gw.1 (M + i) (by omega)
    have ls := lc_some (ws := ws) g hp (n := M + i) (by rw [hM]; omega)
    unfold lc at ls
    rw [ls] at cf
    simp [-List.map_map, -List.any_map, -List.all_map, ec, wC_eq cf, -Int.natCast_add]
  · simp [-List.map_map, -List.any_map, -List.all_map]
    rw [List.map_map, e3]; rfl
/-- the fewest moves within a budget -/
def IsWithin (vs tg ws : List Int) (budget : Int) (o : Option Nat) : Prop := match o with
  | some n => mf (pBreaks vs tg).length ≤ n ∧ n ≤ (pBreaks vs tg).length ∧ cN vs tg ws n ≤ budget ∧ ∀ m, mf (pBreaks vs tg).length ≤ m → m < n → ¬ cN vs tg ws m ≤ budget
  | none => ∀ n, mf (pBreaks vs tg).length ≤ n → n ≤ (pBreaks vs tg).length → ¬ cN vs tg ws n ≤ budget
theorem within_ex (vs tg ws : List Int) (budget : Int) : ∃ o, IsWithin vs tg ws budget o := by
  have gen : ∀ b, (∃ n, mf (pBreaks vs tg).length ≤ n ∧ n < b ∧ cN vs tg ws n ≤ budget ∧ ∀ m, mf (pBreaks vs tg).length ≤ m → m < n → ¬ cN vs tg ws m ≤ budget) ∨ ∀ n, mf (pBreaks vs tg).length ≤ n → n < b → ¬ cN vs tg ws n ≤ budget := by
    intro b
    induction b with
    | zero => exact .inr fun n _ h => by omega
    | succ b ih =>
      rcases ih with ⟨n, h1, h2, h3⟩ | h
      · exact .inl ⟨n, h1, by omega, h3⟩
      · by_cases hb : mf (pBreaks vs tg).length ≤ b ∧ cN vs tg ws b ≤ budget
        · exact .inl ⟨b, hb.1, by omega, hb.2, fun m h1 h2 => h m h1 h2⟩
        · refine .inr fun n h1 h2 => ?_
          by_cases e : n = b
          · subst e; exact fun z => hb ⟨h1, z⟩
          · exact h n h1 (by omega)
  rcases gen ((pBreaks vs tg).length + 1) with ⟨n, h1, h2, h3⟩ | h
  · exact ⟨some n, h1, by omega, h3⟩
  · exact ⟨none, fun n h1 h2 => h n h1 (by omega)⟩
def oNat : Option Nat → D
  | some n => .int n
  | none => .none
theorem within_ok (B : Base T) (hk : 6 ≤ k) {vs tg ws : List Int} (g : GoodL vs) (hp : tg.Perm vs) (gw : GoodW vs ws) {budget : Int} (hb0 : 0 ≤ budget) (hb1 : budget ≤ 1000000) {o : Option Nat} (ho : IsWithin vs tg ws budget o) :
    callk T k "cheapest_within" [iT vs, iT tg, iT ws, .int budget] .none = .ok (oNat o) .none := by
  refine wC_is (wC_runk (by omega) (B.ext _ _ tt_cheapest_within) rfl fun j hj => ?_)
  have hlen : tg.length ≤ 12 := by rw [hp.length_eq]; exact g.2.1
  have hb := pBreaks_len vs tg
  have ca := checkall_ok B (k := j) (by omega) g hp gw
  have bw := between_ok B (k := j) (by omega) budget 0 1000000
  have br := breaksof_ok B (k := j) (show 1 ≤ j by omega) (perm_in hp) (show tg.length ≤ 1000 by omega)
  have mv := movesfor_ok B (k := j) (by omega) (pBreaks vs tg).length (by omega)
  have hm : mf (pBreaks vs tg).length ≤ 4 := (mf_iff _ 4).mp (by omega)
  have s1 : smallI (mf (pBreaks vs tg).length : Nat) = true := decide_eq_true (show _ ∧ _ by omega)
  have s2 : smallI (((pBreaks vs tg).length : Int) + 1) = true := decide_eq_true (show _ ∧ _ by omega)
  simp [f_cheapest_within, b_cheapest_within, -List.map_map, -List.any_map, -List.all_map, wC_eq ca, wC_eq bw, hb0, hb1, wC_eq br, wC_eq mv, s1, s2]
  have hrl : (rngL ((mf (pBreaks vs tg).length : Nat) : Int) ((pBreaks vs tg).length + 1 - mf (pBreaks vs tg).length)).length = (pBreaks vs tg).length + 1 - mf (pBreaks vs tg).length := rngL_len
  refine for_wpR0 (fun i e => (∀ m, mf (pBreaks vs tg).length ≤ m → m < mf (pBreaks vs tg).length + i → ¬ cN vs tg ws m ≤ budget) ∧ ∃ t, e = [.val (iT vs), .val (iT tg), .val (iT ws), .val (.int budget), .val (.int ((pBreaks vs tg).length : Nat)), t]) ⟨fun m h1 h2 => by omega, _, rfl⟩ ?_ ?_
  · rintro i hi e ⟨hn, t, rfl⟩
    have hi' := hi
    rw [hrl] at hi
    rw [rngL_at hi']
    have ec : ((mf (pBreaks vs tg).length : Nat) : Int) + (i : Int) = ((mf (pBreaks vs tg).length + i : Nat) : Int) := by omega
    have cf := costfor_ok B (k := j) (by omega) hp g.2.1 gw.1 (mf (pBreaks vs tg).length + i) (by omega)
    have ls := lc_some (ws := ws) g hp (n := mf (pBreaks vs tg).length + i) (by omega)
    unfold lc at ls
    rw [ls] at cf
    rw [ec]
    by_cases h : cN vs tg ws (mf (pBreaks vs tg).length + i) ≤ budget
    · have : o = some (mf (pBreaks vs tg).length + i) := by
        cases o with
        | none => exact absurd h (ho _ (by omega) (by omega))
        | some n =>
          obtain ⟨q1, q2, q3, q4⟩ := ho
          refine congrArg some ?_
          by_cases e1 : n < mf (pBreaks vs tg).length + i
          · exact absurd q3 (hn n q1 e1)
          · by_cases e2 : mf (pBreaks vs tg).length + i < n
            · exact absurd h (q4 _ (by omega) e2)
            · omega
      subst this
      simp [turnS, b_cheapest_within_L1, -List.map_map, -List.any_map, -List.all_map, wC_eq cf, h, oNat, -Int.natCast_add]
    · simp [turnS, b_cheapest_within_L1, -List.map_map, -List.any_map, -List.all_map, wC_eq cf, h, -Int.natCast_add]
      intro m h1 h2
      by_cases e1 : m = mf (pBreaks vs tg).length + i
      · subst e1; exact Int.not_le.mp h
      · exact Int.not_le.mp (hn m h1 (by omega))
  · rintro e ⟨hn, t, rfl⟩
    rw [hrl] at hn
    have : o = none := by
      cases o with
      | none => rfl
      | some n => exact absurd ho.2.2.1 (hn n ho.1 (by have := ho.2.1; omega))
    subst this
    simp [-List.map_map, -List.any_map, -List.all_map, oNat]
end
end BT
namespace BT
open PySem
/-! ## least values -/
def IsMin {α : Type} (S : α → Prop) (c : α → Int) : Option Int → Prop
  | some x => (∃ f, S f ∧ c f = x) ∧ ∀ f, S f → x ≤ c f
  | none => ∀ f, ¬ S f
section
variable {α : Type} {S S' : α → Prop} {c : α → Int} {r r' : Option Int}
theorem IsMin.uniq (h : IsMin S c r) (h' : IsMin S c r') : r = r' := by
  cases r with
  | none =>
    cases r' with
    | none => rfl
    | some y => obtain ⟨⟨f, hf, _⟩, _⟩ := h'; exact absurd hf (h f)
  | some x =>
    cases r' with
    | none => obtain ⟨⟨f, hf, _⟩, _⟩ := h; exact absurd hf (h' f)
    | some y =>
      obtain ⟨⟨f, hf, e⟩, m⟩ := h
      obtain ⟨⟨f', hf', e'⟩, m'⟩ := h'
      have := m f' hf'
      have := m' f hf
      exact congrArg some (by omega)
theorem IsMin.congr (h : IsMin S c r) (e : ∀ f, S' f ↔ S f) : IsMin S' c r := by
  cases r with
  | none => exact fun f hf => h f ((e f).mp hf)
  | some x =>
    obtain ⟨⟨f, hf, q⟩, m⟩ := h
    exact ⟨⟨f, (e f).mpr hf, q⟩, fun f hf => m f ((e f).mp hf)⟩
end
def mO : Option Int → Option Int → Option Int
  | none, r => r
  | r, none => r
  | some a, some b => some (if b < a then b else a)
theorem IsMin.or {α : Type} {S S' : α → Prop} {c : α → Int} {r r' : Option Int} (h : IsMin S c r) (h' : IsMin S' c r') : IsMin (fun f => S f ∨ S' f) c (mO r r') := by
  cases r with
  | none =>
    have e : mO none r' = r' := rfl
    rw [e]
    exact h'.congr fun f => ⟨fun q => q.resolve_left (h f), .inr⟩
  | some x =>
    cases r' with
    | none => exact h.congr fun f => ⟨fun q => q.resolve_right (h' f), .inl⟩
    | some y =>
      obtain ⟨⟨f, hf, e⟩, m⟩ := h
      obtain ⟨⟨f', hf', e'⟩, m'⟩ := h'
      show IsMin _ c (some (if y < x then y else x))
      refine ⟨?_, fun g hg => ?_⟩
      · split
        · exact ⟨f', .inr hf', e'⟩
        · exact ⟨f, .inl hf, e⟩
      · rcases hg with hg | hg
        · have := m g hg; split <;> omega
        · have := m' g hg; split <;> omega
theorem pS_cons (g : Nat → Int) {a b : Nat} (h : a < b) : pS g b - pS g a = g a + (pS g b - pS g (a + 1)) := by rw [pS_s]; omega
theorem cst_cons (w : Nat → Int) (f : Nat → Nat) (n : Nat) {a b : Nat} (h : a < b) : cst w f n a b = w a * (zer (f a) n : Nat) + cst w f n (a + 1) b := pS_cons _ h
/-! ## least costs by labels, from the last item on -/
section
variable (w : Nat → Int) (br : Nat → Prop) (n L : Nat)
/-- labels from a place on, the first one at least l -/
def From (a l : Nat) (f : Nat → Nat) : Prop := FitR br f n a L ∧ l ≤ f a
/-- labels behind a place whose label is l -/
def Behind (a l : Nat) (f : Nat → Nat) : Prop := FitR br f n (a + 1) L ∧ (a + 1 < L → l ≤ f (a + 1) ∧ (br a → l < f (a + 1)))
end
section
variable {w : Nat → Int} {br : Nat → Prop} {n L : Nat}
theorem from_top {a l : Nat} (ha : a < L) (hl : 2 ^ n ≤ l) : IsMin (From br n L a l) (fun f => cst w f n a L) none := fun f ⟨h1, h2⟩ => by
  have := h1.1 a (Nat.le_refl _) ha; omega
theorem from_step {a l : Nat} (ha : a < L) (hl : l < 2 ^ n) {r r2 : Option Int} (h1 : IsMin (From br n L a (l + 1)) (fun f => cst w f n a L) r) (h2 : IsMin (Behind br n L a l) (fun f => cst w f n (a + 1) L) r2) :
    IsMin (From br n L a l) (fun f => cst w f n a L) (mO r (r2.map fun x => x + w a * (zer l n : Nat))) := by
  have h3 : IsMin (fun f => FitR br f n a L ∧ f a = l) (fun f => cst w f n a L) (r2.map fun x => x + w a * (zer l n : Nat)) := by
    have dn : ∀ f, FitR br f n a L ∧ f a = l → Behind br n L a l f := fun f ⟨⟨q1, q2⟩, q3⟩ => ⟨⟨fun i g1 g2 => q1 i (by omega) g2, fun i g1 g2 => q2 i (by omega) g2⟩, fun h => by
      have := q2 a (Nat.le_refl _) h
      rw [q3] at this; exact this⟩
    cases r2 with
    | none => exact fun f hf => h2 f (dn f hf)
    | some x =>
      obtain ⟨⟨g, ⟨⟨q1, q2⟩, q3⟩, q4⟩, m⟩ := h2
      refine ⟨⟨fun i => if i = a then l else g i, ⟨⟨fun i g1 g2 => ?_, fun i g1 g2 => ?_⟩, if_pos rfl⟩, ?_⟩, fun f hf => ?_⟩
      · by_cases e : i = a
        · show (if i = a then l else g i) < _
          rw [if_pos e]; exact hl
        · show (if i = a then l else g i) < _
          rw [if_neg e]; exact q1 i (by omega) g2
      · show (if i = a then l else g i) ≤ (if i + 1 = a then l else g (i + 1)) ∧ (br i → (if i = a then l else g i) < (if i + 1 = a then l else g (i + 1)))
        rw [if_neg (show ¬ i + 1 = a by omega)]
        by_cases e : i = a
        · subst e
          rw [if_pos rfl]
          exact q3 g2
        · rw [if_neg e]; exact q2 i (by omega) g2
      · show cst w _ n a L = _
        rw [cst_cons w _ n ha]
        have e1 : cst w (fun i => if i = a then l else g i) n (a + 1) L = cst w g n (a + 1) L := cst_congr (by omega) fun i g1 g2 => by
          show zer (if i = a then l else g i) n = _
          rw [if_neg (by omega)]
        have q4 : cst w g n (a + 1) L = x := q4
        rw [e1, q4]
        show w a * (zer (if a = a then l else g a) n : Nat) + x = x + w a * (zer l n : Nat)
        rw [if_pos rfl]; omega
      · have : x ≤ cst w f n (a + 1) L := m f (dn f hf)
        show x + w a * (zer l n : Nat) ≤ cst w f n a L
        rw [cst_cons w f n ha, hf.2]; omega
  refine (h1.or h3).congr fun f => ?_
  constructor
  · rintro ⟨q1, q2⟩
    by_cases e : f a = l
    · exact .inr ⟨q1, e⟩
    · exact .inl ⟨q1, by omega⟩
  · rintro (⟨q1, q2⟩ | ⟨q1, q2⟩)
    · exact ⟨q1, by omega⟩
    · exact ⟨q1, by omega⟩
theorem behind_last {a l : Nat} (ha : a + 1 = L) : IsMin (Behind br n L a l) (fun f => cst w f n (a + 1) L) (some 0) := by
  have z : ∀ f, cst w f n (a + 1) L = 0 := fun f => by rw [ha]; unfold cst; omega
  exact ⟨⟨fun _ => 0, ⟨⟨fun i g1 g2 => by omega, fun i g1 g2 => by omega⟩, fun h => by omega⟩, z _⟩, fun f _ => by show 0 ≤ cst w f n (a + 1) L; rw [z]; exact Int.le_refl _⟩
theorem behind_of [DecidablePred br] {a l : Nat} (ha : a + 1 < L) {r : Option Int} (h : IsMin (From br n L (a + 1) (if br a then l + 1 else l)) (fun f => cst w f n (a + 1) L) r) : IsMin (Behind br n L a l) (fun f => cst w f n (a + 1) L) r := by
  refine h.congr fun f => ?_
  unfold Behind From
  by_cases hb : br a
  · rw [if_pos hb]
    exact ⟨fun ⟨q1, q2⟩ => ⟨q1, (q2 ha).2 hb⟩, fun ⟨q1, q2⟩ => ⟨q1, fun _ => ⟨by omega, fun _ => q2⟩⟩⟩
  · rw [if_neg hb]
    exact ⟨fun ⟨q1, q2⟩ => ⟨q1, (q2 ha).1⟩, fun ⟨q1, q2⟩ => ⟨q1, fun _ => ⟨q2, fun z => absurd z hb⟩⟩⟩
end
/-- one row of the law's table: by how far the label is from the end -/
def rowF (n : Nat) (wv : Int) (later : Nat → Option Int) : Nat → Option Int
  | 0 => none
  | d + 1 => mO (rowF n wv later d) ((later (2 ^ n - (d + 1))).map fun x => x + wv * (zer (2 ^ n - (d + 1)) n : Nat))
theorem rowF_min {w : Nat → Int} {br : Nat → Prop} {n L a : Nat} (ha : a < L) (later : Nat → Option Int) (h : ∀ l, l < 2 ^ n → IsMin (Behind br n L a l) (fun f => cst w f n (a + 1) L) (later l)) : ∀ d, d ≤ 2 ^ n → IsMin (From br n L a (2 ^ n - d)) (fun f => cst w f n a L) (rowF n (w a) later d)
  | 0, _ => from_top ha (by omega)
  | d + 1, hd => by
    have ih := rowF_min ha later h d (by omega)
    have hl : 2 ^ n - (d + 1) < 2 ^ n := by omega
    rw [show 2 ^ n - d = 2 ^ n - (d + 1) + 1 by omega] at ih
    exact from_step ha hl ih (h _ hl)
theorem bt_min {w : Nat → Int} {cl : Nat → Nat → Bool} {br : Nat → Prop} (hcl : ∀ a b, cl a b = true ↔ Cln br a b) (n L : Nat) : IsMin (fun f => FitR br f n 0 L) (fun f => cst w f n 0 L) ((bt w cl n 0 L).map (·.1)) := by
  cases h : bt w cl n 0 L with
  | none =>
    intro f hf
    obtain ⟨x, hx, _⟩ := bt_le (w := w) hcl n (Nat.zero_le L) hf
    rw [h] at hx; cases hx
  | some x =>
    obtain ⟨q1, q2⟩ := lab_ok hcl n (Nat.zero_le L) h
    refine ⟨⟨_, q1, q2⟩, fun f hf => ?_⟩
    obtain ⟨y, hy, hl⟩ := bt_le (w := w) hcl n (Nat.zero_le L) hf
    rw [h] at hy
    cases hy
    exact hl
def oI : Option Int → D
  | some x => .int x
  | none => .none
theorem oC_oI (o : Option (Int × Nat)) : oC o = oI (o.map (·.1)) := by cases o <;> rfl
/-! ## dict(zip(..)) of whole numbers -/
theorem dstoreAll_new : ∀ (ps : List (Int × Int)) (acc : List (D × D)), (ps.map (·.1)).Nodup → (∀ p ∈ ps, ∀ q ∈ acc, PyData.eqv q.1 (.int p.1) = false) → dstoreAll acc (ps.map fun p => (PyData.int p.1, PyData.int p.2)) = acc ++ ps.map fun p => (PyData.int p.1, PyData.int p.2)
  | [], acc, _, _ => by simp [dstoreAll]
  | p :: ps, acc, nd, h => by
    have nd' := List.nodup_cons.mp nd
    have st : ∀ l : List (D × D), (∀ q ∈ l, PyData.eqv q.1 (.int p.1) = false) → dstore l (.int p.1) (.int p.2) = l ++ [(.int p.1, .int p.2)] := fun l => by
      induction l with
      | nil => intro _; rfl
      | cons q l ih =>
        intro hl
        show (if PyData.eqv q.1 (.int p.1) then (q.1, .int p.2) :: l else q :: dstore l (.int p.1) (.int p.2)) = _
        rw [hl q List.mem_cons_self, ih fun z hz => hl z (List.mem_cons_of_mem _ hz)]; rfl
    show dstoreAll (dstore acc (.int p.1) (.int p.2)) _ = _
    rw [st acc (h p List.mem_cons_self), dstoreAll_new ps _ nd'.2 fun q hq z hz => ?_, List.append_assoc]
    · rfl
    · rcases List.mem_append.mp hz with hz | hz
      · exact h q (List.mem_cons_of_mem _ hq) z hz
      · rw [List.mem_singleton.mp hz]
        have : p.1 ≠ q.1 := fun e => nd'.1 (by
          exact List.mem_map.mpr ⟨q, hq, e.symm⟩)
        simp [PyData.eqv]
        exact this
/-- the dict of items and weights -/
def zD (vs ws : List Int) : List (D × D) := (vs.zip ws).map fun p => (PyData.int p.1, PyData.int p.2)
theorem dzip_ok {vs ws : List Int} (nd : vs.Nodup) (hl : vs.length ≤ 1000) : dzipD (iT vs) (iT ws) = some (.dict (zD vs ws)) := by
  have e : (vs.map PyData.int).zip (ws.map PyData.int) = (vs.zip ws).map fun p => (PyData.int p.1, PyData.int p.2) := by rw [List.zip_map]; rfl
  show (if decide ((vs.map PyData.int).length ≤ 1000) then (ints? (vs.map PyData.int)).map fun _ => PyData.dict (dstoreAll [] ((vs.map PyData.int).zip (ws.map PyData.int))) else none) = _
  rw [if_pos (by rw [List.length_map]; exact decide_eq_true hl), ints?_map, e, dstoreAll_new]
  · rfl
  · exact nd.sublist (zip_fst_sub vs ws)
  · intro p _ q hq; cases hq
theorem zD_ok (vs ws : List Int) (v : Int) : kOk (zD vs ws) (.int v) = true := by
  unfold kOk zD
  cases h : vs.zip ws with
  | nil => rfl
  | cons p l => rfl
theorem zD_look {vs ws : List Int} (hl : ws.length = vs.length) {v : Int} (hv : v ∈ vs) : dlook (zD vs ws) (.int v) = some (.int (wt vs ws v)) := by
  unfold zD
  induction vs generalizing ws with
  | nil => cases hv
  | cons x vs ih =>
    cases ws with
    | nil => simp at hl
    | cons y ws =>
      rw [List.zip_cons_cons, List.map_cons]
      show (if PyData.eqv (.int x) (.int v) then some (PyData.int y) else dlook _ (.int v)) = _
      by_cases e : x = v
      · subst e
        simp [PyData.eqv, wt, ix]
      · have hv' : v ∈ vs := (List.mem_cons.mp hv).resolve_left fun z => e z.symm
        rw [if_neg (by simp [PyData.eqv]; exact e), ih (by simpa using hl) hv']
        congr 2
        unfold wt
        have : ix (x :: vs) v = ix vs v + 1 := by
          show List.idxOf v (x :: vs) = _
          rw [List.idxOf_cons, cond_eq_if, if_neg (by simpa using e)]
        rw [this]; rfl
end BT
namespace BT
open PySem
theorem ones_zer (l n : Nat) : n - ((List.range n).filter fun i => decide (l / 2 ^ i % 2 = 1)).length = zer l n := by
  unfold zer
  have h : ∀ m, ((List.range m).filter fun i => decide (l / 2 ^ i % 2 = 1)).length + ((List.range m).filter fun i => decide (l / 2 ^ i % 2 = 0)).length = m := fun m => by
    induction m with
    | zero => rfl
    | succ m ih =>
      rw [List.range_succ, List.filter_append, List.filter_append, List.length_append, List.length_append]
      have : l / 2 ^ m % 2 = 0 ∨ l / 2 ^ m % 2 = 1 := by omega
      rcases this with e | e <;> simp [e] <;> omega
  have := h n
  omega
/-- a row of the law's table -/
def rowL (n : Nat) (R : Nat → Option Int) (t : Nat) : List D := (List.range (2 ^ n + 1)).map fun l => if 2 ^ n - l ≤ t then oI (R (2 ^ n - l)) else .none
theorem rowL_at (n : Nat) (R : Nat → Option Int) {t l : Nat} (hl : l ≤ 2 ^ n) : (rowL n R t)[l]? = some (if 2 ^ n - l ≤ t then oI (R (2 ^ n - l)) else .none) := by
  unfold rowL
  rw [List.getElem?_map, List.getElem?_range (by omega)]; rfl
theorem rowL_len (n : Nat) (R : Nat → Option Int) (t : Nat) : (rowL n R t).length = 2 ^ n + 1 := by simp [rowL]
theorem rowL_set (n : Nat) (R : Nat → Option Int) {t : Nat} (ht : t < 2 ^ n) : (rowL n R t).set (2 ^ n - (t + 1)) (oI (R (t + 1))) = rowL n R (t + 1) := by
  refine List.ext_getElem? fun i => ?_
  rw [List.getElem?_set, rowL_len]
  by_cases hi : i ≤ 2 ^ n
  · rw [rowL_at n R hi, rowL_at n R hi]
    by_cases e : 2 ^ n - (t + 1) = i
    · have e2 : 2 ^ n - i = t + 1 := by omega
      rw [if_pos e, if_pos (by omega), e2, if_pos (Nat.le_refl _)]
    · rw [if_neg e]
      by_cases e2 : 2 ^ n - i ≤ t
      · rw [if_pos e2, if_pos (by omega)]
      · rw [if_neg e2, if_neg (by omega)]
  · rw [if_neg (by omega), List.getElem?_eq_none (by rw [rowL_len]; omega), List.getElem?_eq_none (by rw [rowL_len]; omega)]
theorem rowL_0 (n : Nat) (R : Nat → Option Int) (h : R 0 = none) : rowL n R 0 = List.replicate (2 ^ n + 1) PyData.none := by
  refine List.ext_getElem? fun i => ?_
  by_cases hi : i ≤ 2 ^ n
  · rw [rowL_at n R hi, List.getElem?_replicate_of_lt (by omega)]
    by_cases e : 2 ^ n - i ≤ 0
    · rw [if_pos e, show 2 ^ n - i = 0 by omega, h]; rfl
    · rw [if_neg e]
  · rw [List.getElem?_eq_none (by rw [rowL_len]; omega), List.getElem?_eq_none (by simp; omega)]
section
variable {T : Tab} {k : Nat}
/-- what is behind a place, as the law reads it -/
def folF (vs tg : List Int) (at_ : Nat) (R : Nat → Option Int) (n : Nat) : Nat → Option Int := fun l => if at_ + 1 < tg.length then R (2 ^ n - (if (1 + (at_ : Int)) ∈ pBreaks vs tg then l + 1 else l)) else some 0
/-- one label -/
theorem label_turn {C : Calls} {vs tg ws : List Int} (hp : tg.Perm vs) (hv : vs.length ≤ 12) (gw : GoodW vs ws) {n : Nat} (hn : n ≤ 12) {at_ : Nat} (hat : at_ < tg.length) (R : Nat → Option Int) (R' : Nat → Option Int) {t : Nat} (ht : t < 2 ^ n)
    (hR : R' (t + 1) = mO (R' t) ((folF vs tg at_ R n (2 ^ n - (t + 1))).map fun x => x + wt vs ws tg[at_] * (zer (2 ^ n - (t + 1)) n : Nat))) (x9 x10 x8 x14 x15 x13 : Slot) (hx13 : at_ + 1 < tg.length → x13 = .val (.list (rowL n R (2 ^ n)))) :
    turnS C (.v 8) b_law_least_L2 (.int ((2 ^ n - (t + 1) : Nat) : Int)) [.val (iT vs), .val (iT tg), .val (iT ws), .val (.int n), .own (.dict (zD vs ws)), .val (iL (pBreaks vs tg)), .val (.int (2 ^ n : Nat)), .own (.list ((List.range (2 ^ n)).map fun l => PyData.int (zer l n : Nat))), x8, x9, x10, .own (.list (rowL n R' t)), .val (.int (at_ : Nat)), x13, x14, x15, .no] fun fl e2 => fl = .next ∧ Hd (fun e => ∃ x8 x14 x15, e = [.val (iT vs), .val (iT tg), .val (iT ws), .val (.int n), .own (.dict (zD vs ws)), .val (iL (pBreaks vs tg)), .val (.int (2 ^ n : Nat)), .own (.list ((List.range (2 ^ n)).map fun l => PyData.int (zer l n : Nat))), x8, x9, x10, .own (.list (rowL n R' (t + 1))), .val (.int (at_ : Nat)), x13, x14, x15, .no]) ⟨⟩ e2 := by
  have hl : 2 ^ n - (t + 1) < 2 ^ n := by omega
  generalize hle : 2 ^ n - (t + 1) = l at hl hR
  have ec : (l : Int) + 1 = ((l + 1 : Nat) : Int) := by omega
  have ea : (at_ : Int) + 1 = ((at_ + 1 : Nat) : Int) := by omega
  have ba := rowL_at n R' (t := t) (l := l + 1) (by omega)
  have e1 : 2 ^ n - (l + 1) = t := by omega
  rw [e1, if_pos (Nat.le_refl _)] at ba
  have hz : ((List.range (2 ^ n)).map fun l => PyData.int (zer l n : Nat))[l]? = some (.int (zer l n : Nat)) := by rw [List.getElem?_map, List.getElem?_range hl]; rfl
  have hm : tg[at_] ∈ vs := hp.mem_iff.mp (List.getElem_mem hat)
  have ht1 : (tg.map PyData.int)[at_]? = some (.int tg[at_]) := by rw [List.getElem?_map, List.getElem?_eq_getElem hat]; rfl
  have zl := zD_look gw.1 hm
  have zk := zD_ok vs ws tg[at_]
  have hwm : wt vs ws tg[at_] ∈ ws := List.mem_of_getElem? (wt_at gw.1 hm)
  have hwb := gw.2 _ hwm
  have mo : mulOk (wt vs ws tg[at_]) (zer l n : Nat) = true := mul_small' (by omega)
  have st := rowL_set n R' ht
  rw [hle] at st
  have hrl : (rowL n R' t).length = 2 ^ n + 1 := by simp [rowL]
  obtain ⟨d0, hset⟩ : ∃ d0, (rowL n R' t)[l]? = some d0 := ⟨_, rowL_at n R' (t := t) (l := l) (by omega)⟩
  have hin : (1 + (at_ : Int) ∈ pBreaks vs tg) ↔ (((at_ + 1 : Nat) : Int) ∈ pBreaks vs tg) := by rw [show 1 + (at_ : Int) = ((at_ + 1 : Nat) : Int) by omega]
  -- what follows
  have fol : ∀ {K : D → Env → Prop} {e : Env}, slot e 1 = .val (iT tg) → slot e 12 = .val (.int (at_ : Nat)) → slot e 13 = x13 → slot e 5 = .val (iL (pBreaks vs tg)) → slot e 8 = .val (.int (l : Nat)) → K (oI (folF vs tg at_ R n l)) e →
      wpE C (.ite (.cmp .Lt (.bin .Add (.b 12) (.k (.int (1)))) (.pr .len (.b 1))) (.ix (.b 13) (.ite (.cmp .In (.bin .Add (.b 12) (.k (.int (1)))) (.b 5)) (.bin .Add (.b 8) (.k (.int (1)))) (.v 8))) (.k (.int (0)))) e K := by
    intro K e h1 h12 h13 h5 h8 hK
    by_cases h : at_ + 1 < tg.length
    · have hx := hx13 h
      have r1 := rowL_at n R (t := 2 ^ n) (l := if (1 + (at_ : Int)) ∈ pBreaks vs tg then l + 1 else l) (by split <;> omega)
      rw [if_pos (Nat.sub_le _ _)] at r1
      have hK' : K (oI (R (2 ^ n - (if (1 + (at_ : Int)) ∈ pBreaks vs tg then l + 1 else l)))) e := by unfold folF at hK; rwa [if_pos h] at hK
      by_cases hb : (1 + (at_ : Int)) ∈ pBreaks vs tg
      · have hb' := hin.mp hb
        rw [if_pos hb] at r1 hK'
        simp [-List.map_map, -List.any_map, -List.all_map, h1, h12, h13, h5, h8, h, ea, ec, hx, hb', r1, -Int.natCast_add]
        exact hK'
      · have hb' : ¬ (((at_ + 1 : Nat) : Int) ∈ pBreaks vs tg) := fun z => hb (hin.mpr z)
        rw [if_neg hb] at r1 hK'
        simp [-List.map_map, -List.any_map, -List.all_map, h1, h12, h13, h5, h8, h, ea, ec, hx, hb', r1, -Int.natCast_add]
        exact hK'
    · have hK' : K (.int 0) e := by unfold folF at hK; rwa [if_neg h] at hK
      simp [-List.map_map, -List.any_map, -List.all_map, h1, h12, h13, h5, h8, h, ea, -Int.natCast_add]
      exact hK'
  simp only [turnS, b_law_least_L2, bt_v, w_asg]
  refine ⟨_, rfl, fol rfl rfl rfl rfl rfl ?_⟩
  have fin : ∀ {x14 x15}, Hd (fun e => ∃ x8 x14 x15, e = [.val (iT vs), .val (iT tg), .val (iT ws), .val (.int n), .own (.dict (zD vs ws)), .val (iL (pBreaks vs tg)), .val (.int (2 ^ n : Nat)), .own (.list ((List.range (2 ^ n)).map fun l => PyData.int (zer l n : Nat))), x8, x9, x10, .own (.list (rowL n R' (t + 1))), .val (.int (at_ : Nat)), x13, x14, x15, .no]) ⟨⟩ [.val (iT vs), .val (iT tg), .val (iT ws), .val (.int n), .own (.dict (zD vs ws)), .val (iL (pBreaks vs tg)), .val (.int (2 ^ n : Nat)), .own (.list ((List.range (2 ^ n)).map fun l => PyData.int (zer l n : Nat))), .val (.int (l : Nat)), x9, x10, .own (.list ((rowL n R' t).set l (oI (R' (t + 1))))), .val (.int (at_ : Nat)), x13, x14, x15, .no] := .i ⟨_, _, _, by rw [st]⟩
  have c0 : dcmp .NotEq (.list []) (.list []) = some false := ne_l [] []
  have c1 : ∀ a : Int, dcmp .NotEq (.list [.int a]) (.list []) = some true := fun a => ne_l [a] []
  have c2 : ∀ a b : Int, dcmp .NotEq (.list [.int a, .int b]) (.list []) = some true := fun a b => ne_l [a, b] []
  have i1 : ∀ a : Int, ints? [.int a] = some [a] := fun a => rfl
  have i2 : ∀ a b : Int, ints? [.int a, .int b] = some [a, b] := fun a b => rfl
  have m1 : ∀ a : Int, minI [a] = some a := fun a => rfl
  have m2 : ∀ a b : Int, minI [a, b] = some (if b < a then b else a) := fun a b => rfl
  cases h1 : R' t with
  | none =>
    rw [h1] at ba hR
    have ba : (rowL n R' t)[l + 1]? = some .none := ba
    cases h2 : folF vs tg at_ R n l with
    | none =>
      rw [h2] at hR
      have hR : R' (t + 1) = none := hR
      rw [hR] at fin
      simp [-List.map_map, -List.any_map, -List.all_map, oI, ec, ba, -Int.natCast_add]
      refine lcf_wp (l := [PyData.none]) (enc := fun d => d) (fun d => !isNone d) (fun d => d) (fun d hd => ?_) ?_
      · rw [List.mem_singleton.mp hd]; simp [-List.map_map, -List.any_map, -List.all_map]
      · simp [-List.map_map, -List.any_map, -List.all_map, c0, hset]
        exact fin
    | some y =>
      rw [h2] at hR
      have hR : R' (t + 1) = some (y + wt vs ws tg[at_] * (zer l n : Nat)) := hR
      rw [hR] at fin
      simp [-List.map_map, -List.any_map, -List.all_map, oI, ec, ba, ht1, zk, zl, hz, mo, -Int.natCast_add]
      refine ⟨by show 1 < 1000000; omega, lcf_wp (l := [PyData.none, .int (y + wt vs ws tg[at_] * (zer l n : Nat))]) (enc := fun d => d) (fun d => !isNone d) (fun d => d) (fun d hd => ?_) ?_⟩
      · simp only [List.mem_cons, List.not_mem_nil, or_false] at hd
        rcases hd with rfl | rfl <;> simp [-List.map_map, -List.any_map, -List.all_map]
      · simp [-List.map_map, -List.any_map, -List.all_map, c1, i1, m1, hset]
        exact fin
  | some x =>
    rw [h1] at ba hR
    have ba : (rowL n R' t)[l + 1]? = some (.int x) := ba
    cases h2 : folF vs tg at_ R n l with
    | none =>
      rw [h2] at hR
      have hR : R' (t + 1) = some x := hR
      rw [hR] at fin
      simp [-List.map_map, -List.any_map, -List.all_map, oI, ec, ba, -Int.natCast_add]
      refine lcf_wp (l := [PyData.int x]) (enc := fun d => d) (fun d => !isNone d) (fun d => d) (fun d hd => ?_) ?_
      · rw [List.mem_singleton.mp hd]; simp [-List.map_map, -List.any_map, -List.all_map]
      · simp [-List.map_map, -List.any_map, -List.all_map, c1, i1, m1, hset]
        exact fin
    | some y =>
      rw [h2] at hR
      have hR : R' (t + 1) = some (if y + wt vs ws tg[at_] * (zer l n : Nat) < x then y + wt vs ws tg[at_] * (zer l n : Nat) else x) := hR
      rw [hR] at fin
      simp [-List.map_map, -List.any_map, -List.all_map, oI, ec, ba, ht1, zk, zl, hz, mo, -Int.natCast_add]
      refine ⟨by show 1 < 1000000; omega, lcf_wp (l := [PyData.int x, .int (y + wt vs ws tg[at_] * (zer l n : Nat))]) (enc := fun d => d) (fun d => !isNone d) (fun d => d) (fun d hd => ?_) ?_⟩
      · simp only [List.mem_cons, List.not_mem_nil, or_false] at hd
        rcases hd with rfl | rfl <;> simp [-List.map_map, -List.any_map, -List.all_map]
      · simp [-List.map_map, -List.any_map, -List.all_map, c2, i2, m2, hset]
        exact fin
/-- the rows, from the last item on -/
def rowK (vs tg ws : List Int) (n : Nat) : Nat → Nat → Option Int
  | 0 => fun _ => none
  | m + 1 => rowF n (wAt (wt vs ws) tg (tg.length - (m + 1))) (folF vs tg (tg.length - (m + 1)) (rowK vs tg ws n m) n)
theorem rowK_min (vs tg ws : List Int) (n : Nat) : ∀ m, 1 ≤ m → m ≤ tg.length → ∀ d, d ≤ 2 ^ n → IsMin (From (brk vs tg) n tg.length (tg.length - m) (2 ^ n - d)) (fun f => cst (wAt (wt vs ws) tg) f n (tg.length - m) tg.length) (rowK vs tg ws n m d)
  | 0, h, _ => by omega
  | m + 1, _, hm => by
    refine rowF_min (by omega) _ fun l hl => ?_
    unfold folF
    by_cases h : tg.length - (m + 1) + 1 < tg.length
    · rw [if_pos h]
      haveI : DecidablePred (brk vs tg) := fun i => Classical.propDecidable _
      refine behind_of h ?_
      have e1 : tg.length - (m + 1) + 1 = tg.length - m := by omega
      have ih := rowK_min vs tg ws n m (by omega) (by omega)
      have hb : (1 + ((tg.length - (m + 1) : Nat) : Int)) ∈ pBreaks vs tg ↔ brk vs tg (tg.length - (m + 1)) := by
        rw [mem_breaks]
        exact ⟨fun ⟨i, hi, e⟩ => by rwa [show tg.length - (m + 1) = i by omega], fun hi => ⟨_, hi, rfl⟩⟩
      by_cases q : brk vs tg (tg.length - (m + 1))
      · rw [if_pos q, if_pos (hb.mpr q), e1]
        have := ih (2 ^ n - (l + 1)) (by omega)
        rwa [show 2 ^ n - (2 ^ n - (l + 1)) = l + 1 by omega] at this
      · rw [if_neg q, if_neg fun z => q (hb.mp z), e1]
        have := ih (2 ^ n - l) (by omega)
        rwa [show 2 ^ n - (2 ^ n - l) = l by omega] at this
    · rw [if_neg h]
      exact behind_last (by omega)
theorem rowK_end {vs tg ws : List Int} (n : Nat) (h : 1 ≤ tg.length) : oI (rowK vs tg ws n tg.length (2 ^ n)) = lc vs tg ws n := by
  have h1 := rowK_min vs tg ws n tg.length h (Nat.le_refl _) (2 ^ n) (Nat.le_refl _)
  rw [Nat.sub_self, Nat.sub_self] at h1
  have h2 := bt_min (w := wAt (wt vs ws) tg) (clB_iff vs tg) n tg.length
  have h3 := (h1.congr (S' := fun f => FitR (brk vs tg) f n 0 tg.length) fun f => ⟨fun q => ⟨q, Nat.zero_le _⟩, fun q => q.1⟩).uniq h2
  rw [h3]
  unfold lc
  rw [oC_oI]
theorem lleast_ok (B : Base T) (hk : 2 ≤ k) {vs tg ws : List Int} (g : GoodL vs) (hp : tg.Perm vs) (gw : GoodW vs ws) (n : Nat) (hn : n ≤ 9) : callk T k "_law_least" [iT vs, iT tg, iT ws, .int n] .none = .ok (lc vs tg ws n) .none := by
  refine wC_is (wC_runk (by omega) (B.ext _ _ tt_law_least) rfl fun j hj => ?_)
  have hlen : tg.length ≤ 12 := by rw [hp.length_eq]; exact g.2.1
  have hpos : 1 ≤ tg.length := by rw [hp.length_eq]; exact g.1
  have hv := g.2.1
  have hb := pBreaks_len vs tg
  have br := lbreaks_ok B (k := j) (show 1 ≤ j by omega) (perm_in hp) (show tg.length ≤ 1000 by omega)
  have two := ltwo_ok B (k := j) (by omega) n (by omega)
  have twos : ∀ i : Nat, i ≤ 12 → callk T j "_law_two_to" [.int i] .none = .ok (.int (2 ^ i)) .none := fun i hi => ltwo_ok B (by omega) i (by omega)
  have dz := dzip_ok (ws := ws) g.2.2.2 (by omega)
  have hpow : 2 ^ n ≤ 2 ^ 9 := Nat.pow_le_pow_right (by omega) hn
  have hp1 : 1 ≤ 2 ^ n := Nat.one_le_two_pow
  have e2 : (2 : Int) ^ n = ((2 ^ n : Nat) : Int) := by simp
  rw [e2] at two
  generalize callk T j = C at br two twos
  have s1 : smallI ((2 ^ n : Nat) : Int) = true := decide_eq_true (show _ ∧ _ by omega)
  simp [f_law_least, b_law_least, -List.map_map, -List.any_map, -List.all_map, dz, wC_eq br, wC_eq two, s1, -Int.natCast_pow]
  unfold rngL
  refine for_pre (fun pre e => ∃ x8 x9, e = [.val (iT vs), .val (iT tg), .val (iT ws), .val (.int n), .own (.dict (zD vs ws)), .val (iL (pBreaks vs tg)), .val (.int (2 ^ n : Nat)), .own (.list (pre.map fun l => PyData.int (zer l n : Nat))), x8, x9, .no, .no, .no, .no, .no, .no, .no]) ⟨_, _, rfl⟩ ?_ ?_
  · rintro pre l post hpre e ⟨x8, x9, rfl⟩
    have hl : l < 2 ^ n := List.mem_range.mp (by rw [hpre]; simp)
    have hpl : pre.length ≤ 4096 := by have := congrArg List.length hpre; simp at this; omega
    have sn : smallI (n : Int) = true := decide_eq_true (show _ ∧ _ by omega)
    have lg : n ≤ 1000000 := by omega
    have bb : pre.length < big := by show _ < 1000000; omega
    simp [turnS, b_law_least_L1, -List.map_map, -List.any_map, -List.all_map, sn, lg, rngL]
    refine lcf_wp (fun i => decide (l / 2 ^ i % 2 = 1)) (fun i => .int 1) (fun i hi => ?_) ?_
    · have hi := List.mem_range.mp hi
      have e3 : (l : Int) / 2 ^ i % 2 = ((l / 2 ^ i % 2 : Nat) : Int) := by rw [Int.natCast_emod, Int.natCast_ediv]; simp
      have dv2 : dvOk 2 = true := by decide
      by_cases h : l / 2 ^ i % 2 = 1
      · have h' : (l : Int) / 2 ^ i % 2 = 1 := by rw [e3, h]; rfl
        simp [-List.map_map, -List.any_map, -List.all_map, wC_eq (twos i (by omega)), dv_pow (show i ≤ 8000 by omega), dv2, h', h]
      · have h' : ¬ (l : Int) / 2 ^ i % 2 = 1 := by rw [e3]; omega
        simp [-List.map_map, -List.any_map, -List.all_map, wC_eq (twos i (by omega)), dv_pow (show i ≤ 8000 by omega), dv2, h', h]
    · have oz := ones_zer l n
      have ol : ((List.range n).filter fun i => decide (l / 2 ^ i % 2 = 1)).length ≤ n := Nat.le_trans (List.length_filter_le _ _) (by rw [List.length_range]; exact Nat.le_refl _)
      have e4 : (n : Int) - (((List.range n).filter fun i => decide (l / 2 ^ i % 2 = 1)).length : Nat) = ((zer l n : Nat) : Int) := by omega
      simp [-List.map_map, -List.any_map, -List.all_map, e4, bb]
      exact .i ⟨_, _, by rw [List.map_append]; rfl⟩
  · rintro e ⟨x8, x9, rfl⟩
    have s2 : 0 ≤ ((2 ^ n : Nat) : Int) + 1 ∧ ((2 ^ n : Nat) : Int) + 1 ≤ 1000 := by omega
    have e5 : (((2 ^ n : Nat) : Int) + 1).toNat = 2 ^ n + 1 := by omega
    have s3 : smallI ((tg.length : Int) - 1) = true := decide_eq_true (show _ ∧ _ by omega)
    have s4 : smallI (-1) = true := by decide
    have e6 : ((tg.length : Int) - 1 - -1).toNat = tg.length := by omega
    simp [-List.map_map, -List.any_map, -List.all_map, s2, e5, s3, s4, e6, -Int.natCast_pow]
    unfold rngC
    refine for_h (fun i e => ∃ x8 x9 x10 x12 x13 x14 x15 x11, e = [.val (iT vs), .val (iT tg), .val (iT ws), .val (.int n), .own (.dict (zD vs ws)), .val (iL (pBreaks vs tg)), .val (.int (2 ^ n : Nat)), .own (.list ((List.range (2 ^ n)).map fun l => PyData.int (zer l n : Nat))), x8, x9, x10, .own (.list x11), x12, x13, x14, x15, .no] ∧ (1 ≤ i → x11 = rowL n (rowK vs tg ws n i) (2 ^ n))) ⟨_, _, _, _, _, _, _, _, rfl, fun h => by omega⟩ ?_ ?_
    · rintro i hi e ⟨x8, x9, x10, x12, x13, x14, x15, x11, rfl, h11⟩
      have hi : i < tg.length := by simpa using hi
      have hat : tg.length - (i + 1) < tg.length := by omega
      have e7 : ((List.range tg.length).map fun i : Nat => PyData.int ((tg.length : Int) - 1 + (i : Int) * -1))[i]'(by simpa using hi) = .int ((tg.length - (i + 1) : Nat) : Int) := by
        rw [List.getElem_map, List.getElem_range]
        congr 1
        omega
      rw [e7]
      have s5 : smallI (((2 ^ n : Nat) : Int) - 1) = true := decide_eq_true (show _ ∧ _ by omega)
      have e8 : (((2 ^ n : Nat) : Int) - 1 - -1).toNat = 2 ^ n := by omega
      simp [turnS, b_law_least_L3, -List.map_map, -List.any_map, -List.all_map, s2, e5, s5, s4, e8, -Int.natCast_pow]
      unfold rngC
      have hw : wt vs ws tg[tg.length - (i + 1)] = wAt (wt vs ws) tg (tg.length - (i + 1)) := by unfold wAt; simp [hat]
      refine for_h (fun t e => ∃ x8 x14 x15, e = [.val (iT vs), .val (iT tg), .val (iT ws), .val (.int n), .own (.dict (zD vs ws)), .val (iL (pBreaks vs tg)), .val (.int (2 ^ n : Nat)), .own (.list ((List.range (2 ^ n)).map fun l => PyData.int (zer l n : Nat))), x8, x9, x10, .own (.list (rowL n (rowK vs tg ws n (i + 1)) t)), .val (.int (tg.length - (i + 1) : Nat)), .val (.list x11), x14, x15, .no]) ⟨_, _, _, by rw [rowL_0 n _ rfl]⟩ ?_ ?_
      · rintro t ht e ⟨x8, x14, x15, rfl⟩
        have ht : t < 2 ^ n := by simpa using ht
        have e9 : ((List.range (2 ^ n)).map fun i : Nat => PyData.int (((2 ^ n : Nat) : Int) - 1 + (i : Int) * -1))[t]'(by simpa using ht) = .int ((2 ^ n - (t + 1) : Nat) : Int) := by
          rw [List.getElem_map, List.getElem_range]
          congr 1
          omega
        rw [e9]
        have hR : rowK vs tg ws n (i + 1) (t + 1) = mO (rowK vs tg ws n (i + 1) t) ((folF vs tg (tg.length - (i + 1)) (rowK vs tg ws n i) n (2 ^ n - (t + 1))).map fun x => x + wt vs ws tg[tg.length - (i + 1)] * (zer (2 ^ n - (t + 1)) n : Nat)) := by
          rw [hw]; rfl
        exact label_turn hp g.2.1 gw (by omega) hat (rowK vs tg ws n i) (rowK vs tg ws n (i + 1)) ht hR x9 x10 x8 x14 x15 (.val (.list x11)) fun h => by rw [h11 (by omega)]
      · rintro e ⟨x8, x14, x15, rfl⟩
        have hr : ((List.range (2 ^ n)).map fun i : Nat => PyData.int (((2 ^ n : Nat) : Int) - 1 + (i : Int) * -1)).length = 2 ^ n := by simp
        rw [hr]
        simp only [w_th_n, w_sn]
        exact ⟨trivial, .i ⟨_, _, _, _, _, _, _, _, rfl, fun _ => rfl⟩⟩
    · rintro e ⟨x8, x9, x10, x12, x13, x14, x15, x11, rfl, h11⟩
      have hr : ((List.range tg.length).map fun i : Nat => PyData.int ((tg.length : Int) - 1 + (i : Int) * -1)).length = tg.length := by simp
      rw [hr] at h11
      have h0 := h11 hpos
      subst h0
      have r0 := rowL_at n (rowK vs tg ws n tg.length) (t := 2 ^ n) (l := 0) (Nat.zero_le _)
      rw [if_pos (Nat.sub_le _ _), Nat.sub_zero, rowK_end n hpos] at r0
      have r0' : atD (rowL n (rowK vs tg ws n tg.length) (2 ^ n)) 0 = some (lc vs tg ws n) := by
        rw [show (0 : Int) = ((0 : Nat) : Int) from rfl, at_n]; exact r0
      simp [-List.map_map, -List.any_map, -List.all_map, r0', -at_p]
/-! ## the cost of moves, by the law -/
theorem lcost_ok (B : Base T) (hk : 1 ≤ k) {vs ws : List Int} (nd : vs.Nodup) (hl : vs.length ≤ 1000) (hw : ws.length = vs.length) {rows : List (List Int)} (hr : ∀ r ∈ rows, ∀ v ∈ r, v ∈ vs) (hrl : ∀ r ∈ rows, r.length ≤ 1000) : callk T k "_law_cost" [iT vs, iT ws, rT rows] .none = .ok (.int (pCost (wt vs ws) rows)) .none := by
  refine wC_is (wC_runk (by omega) (B.ext _ _ tt_law_cost) rfl fun j hj => ?_)
  have dz := dzip_ok (ws := ws) nd hl
  simp [f_law_cost, b_law_cost, -List.map_map, -List.any_map, -List.all_map, dz]
  refine for_pre (fun pre e => ∃ x5, e = [.val (iT vs), .val (iT ws), .val (rT rows), .own (.dict (zD vs ws)), .val (.int (pCost (wt vs ws) pre)), x5, .no]) ⟨_, rfl⟩ ?_ ?_
  · rintro pre r post hpre e ⟨x5, rfl⟩
    have hm : r ∈ rows := by rw [hpre]; simp
    have lg : r.length ≤ 1000000 := by have := hrl r hm; omega
    simp [turnS, b_law_cost_L1, -List.map_map, -List.any_map, -List.all_map, lg]
    refine lc_wp (fun v => .int (wt vs ws v)) (fun v hv => ?_) ?_
    · simp [-List.map_map, -List.any_map, -List.all_map, zD_ok, zD_look hw (hr r hm v hv)]
    · have e1 : (r.map fun v => PyData.int (wt vs ws v)) = (r.map (wt vs ws)).map PyData.int := by rw [List.map_map]; rfl
      have e2 : pCost (wt vs ws) (pre ++ [r]) = pCost (wt vs ws) pre + (r.map (wt vs ws)).sum := by unfold pCost; simp
      rw [e1]
      simp [-List.map_map, -List.any_map, -List.all_map]
      exact .i ⟨_, by rw [e2]⟩
  · rintro e ⟨x5, rfl⟩
    simp [-List.map_map, -List.any_map, -List.all_map]
variable {n : Nat} {s : D}
theorem lweights_wp (B : Base T) (hk : 3 ≤ k) (hs : Src n s) {vs : List Int} (hl : vs.length ≤ 12) (hn : n < 800000000) : wpC (callk T k) "_law_weights" [iT vs] s fun d s' => ∃ ws, d = iT ws ∧ GoodW vs ws ∧ Src (n + 20) s' := by
  refine wC_runh (by omega) (B.ext _ _ tt_law_weights) rfl fun j hj => ?_
  simp [f_law_weights, b_law_weights, -List.map_map, -List.any_map, -List.all_map]
  refine wC_of (choice_wp B (show 2 ≤ j by omega) hs (.inl rfl) (by simp) (by simp) (by omega)) fun dw s1 ⟨hw, hs1⟩ => ?_
  have hw : ∃ wide : Int, dw = .int wide ∧ 0 < wide ∧ wide ≤ 1000 := by
    simp at hw
    rcases hw with rfl | rfl | rfl
    · exact ⟨1, rfl, by omega, by omega⟩
    · exact ⟨3, rfl, by omega, by omega⟩
    · exact ⟨1000, rfl, by omega, by omega⟩
  obtain ⟨wide, rfl, w0, w1⟩ := hw
  have lg : vs.length ≤ 1000000 := by omega
  simp [-List.map_map, -List.any_map, -List.all_map, lg]
  refine lc_h (fun i ys e => ∃ s ws x, e = [.inp s, .val (iT vs), .val (.int wide), x] ∧ ys = ws.map PyData.int ∧ ws.length = i ∧ (∀ w ∈ ws, 1 ≤ w ∧ w ≤ 1000) ∧ Src (n + 1 + i) s) ⟨s1, [], _, rfl, rfl, rfl, by simp, hs1⟩ ?_ ?_
  · rintro i hi ys e ⟨s, ws, x, rfl, rfl, hwl, hwb, hs⟩
    have hi : i < vs.length := by simpa using hi
    simp [-List.map_map, -List.any_map, -List.all_map]
    refine wC_of (draw_wp B (show 1 ≤ j by omega) hs w0 (by omega) (by omega)) fun d s3 ⟨v, e, hv, hs3⟩ => ?_
    subst e
    simp [-List.map_map, -List.any_map, -List.all_map]
    refine .i ⟨s3, ws ++ [1 + (v : Int)], _, rfl, by simp, by simp [hwl], fun w hw => ?_, hs3⟩
    rcases List.mem_append.mp hw with hw | hw
    · exact hwb w hw
    · have : w = 1 + (v : Int) := by simpa using hw
      omega
  · rintro ys e ⟨s, ws, x, rfl, rfl, hwl, hwb, hs⟩
    have hwl : ws.length = vs.length := by simpa using hwl
    simp [-List.map_map, -List.any_map, -List.all_map] at hs ⊢
    exact .i ⟨ws, rfl, ⟨hwl, hwb⟩, hs.mono (by omega)⟩
end
end BT
namespace BT
open PySem
/-! ## all moves of a number -/
def stepM (sets : List (List Int)) (found : List (List (List Int))) : List (List (List Int)) := found.flatMap fun rows => sets.map fun s => rows ++ [s]
def allM (sets : List (List Int)) : Nat → List (List (List Int))
  | 0 => [[]]
  | n + 1 => stepM sets (allM sets n)
theorem allM_mem {sets : List (List Int)} : ∀ {n : Nat} {rows : List (List Int)}, rows ∈ allM sets n ↔ rows.length = n ∧ ∀ r ∈ rows, r ∈ sets
  | 0, rows => by
    show rows ∈ [[]] ↔ _
    rw [List.mem_singleton]
    constructor
    · rintro rfl; exact ⟨rfl, by simp⟩
    · rintro ⟨h, _⟩; exact List.length_eq_zero_iff.mp h
  | n + 1, rows => by
    show rows ∈ stepM sets (allM sets n) ↔ _
    unfold stepM
    rw [List.mem_flatMap]
    constructor
    · rintro ⟨q, hq, h⟩
      obtain ⟨s, hs, rfl⟩ := List.mem_map.mp h
      obtain ⟨h1, h2⟩ := allM_mem.mp hq
      refine ⟨by rw [List.length_append, h1]; rfl, fun r hr => ?_⟩
      rcases List.mem_append.mp hr with hr | hr
      · exact h2 r hr
      · rw [List.mem_singleton.mp hr]; exact hs
    · rintro ⟨h1, h2⟩
      have hne : rows ≠ [] := by intro e; rw [e] at h1; cases h1
      refine ⟨rows.dropLast, allM_mem.mpr ⟨by rw [List.length_dropLast]; omega, fun r hr => h2 r (List.dropLast_subset rows hr)⟩, List.mem_map.mpr ⟨rows.getLast hne, h2 _ (List.getLast_mem hne), List.dropLast_concat_getLast hne⟩⟩
theorem stepM_len (sets : List (List Int)) : ∀ found : List (List (List Int)), (stepM sets found).length = found.length * sets.length
  | [] => by simp [stepM]
  | f :: found => by
    have := stepM_len sets found
    unfold stepM at this ⊢
    rw [List.flatMap_cons, List.length_append, this, List.length_map, List.length_cons, Nat.add_mul]
    omega
theorem allM_len (sets : List (List Int)) : ∀ n, (allM sets n).length = sets.length ^ n
  | 0 => rfl
  | n + 1 => by
    show (stepM sets (allM sets n)).length = _
    rw [stepM_len, allM_len sets n, Nat.pow_succ]
theorem lk_stT (k k' : List Int) (v : Int) : ∀ l : List (List Int × Int), lkT (stT l k v) k' = if k = k' then some v else lkT l k'
  | [] => rfl
  | p :: l => by
    have ih := lk_stT k k' v l
    unfold stT
    by_cases h : p.1 = k
    · rw [if_pos h]
      unfold lkT
      by_cases h2 : k = k'
      · rw [if_pos (h.trans h2), if_pos h2]
      · rw [if_neg (fun e => h2 (h.symm.trans e)), if_neg h2, if_neg fun e => h2 (h.symm.trans e)]
    · rw [if_neg h]
      unfold lkT
      by_cases h1 : p.1 = k'
      · rw [if_pos h1, if_neg fun e => h (h1.trans e.symm), if_pos h1]
      · rw [if_neg h1, if_neg h1, ih]
theorem stT_len (k : List Int) (v : Int) : ∀ l : List (List Int × Int), (stT l k v).length ≤ l.length + 1
  | [] => by simp [stT]
  | p :: l => by
    have := stT_len k v l
    unfold stT
    split <;> simp <;> omega
/-- the least costs, by plans -/
theorem plan_min {vs tg : List Int} (g : Int → Int) (nd : vs.Nodup) (hp : tg.Perm vs) (n : Nat) : IsMin (fun rows : List (List Int) => rows.length = n ∧ (∀ r ∈ rows, GoodSel vs r) ∧ pAfter vs rows = tg) (pCost g) ((bt (wAt g tg) (clB vs tg) n 0 tg.length).map (·.1)) := by
  cases h : bt (wAt g tg) (clB vs tg) n 0 tg.length with
  | none =>
    rintro rows ⟨h1, h2, h3⟩
    obtain ⟨x, hx, _⟩ := cost_low (g := g) nd hp h2 h3
    rw [h1, h] at hx; cases hx
  | some x =>
    obtain ⟨q1, q2, q3, q4⟩ := cost_plan nd hp h
    refine ⟨⟨_, ⟨q1, q2, q3⟩, q4⟩, fun rows ⟨h1, h2, h3⟩ => ?_⟩
    obtain ⟨y, hy, hl⟩ := cost_low (g := g) nd hp h2 h3
    rw [h1, h] at hy
    cases hy
    exact hl
section
variable {T : Tab} {k : Nat}
theorem leq_oI (B : Base T) (hk : 2 ≤ k) (r : Option Int) : callk T k "_law_equal" [oI r, oI r] .none = .ok (.bool true) .none := by
  cases r with
  | none => exact lequal_ok B 0 _ k hk .non
  | some x => exact lequal_ok B 0 _ k hk (.int x)
/-- all selections of a list, grown item by item: the loop of several laws -/
theorem grow_loop {C : Calls} {b : ISs} {i : Nat} {E : Slot → Slot → Env} {vs : List Int} (hv : vs.length ≤ 12) {R : Fl → Env → Prop} {x0 : Slot}
    (turn : ∀ (sets : List (List Int)) (a : Int) (x : Slot), sets.length ≤ 4096 → (∀ s ∈ sets, s.length ≤ 12) → turnS C (.v i) b (.int a) (E (.own (.list (sets.map iT))) x) fun fl e2 => fl = .next ∧ ∃ x', e2 = E (.own (.list ((grow sets a).map iT))) x')
    (fin : ∀ x, R .next (E (.own (.list ((allSel (sortI vs)).map iT))) x)) : wpFor C (.v i) b ((sortI vs).map PyData.int) (E (.own (.list [.tuple []])) x0) R := by
  have hsl : (sortI vs).length = vs.length := (sortI_perm vs).length_eq
  refine for_pre (fun pre e => ∃ x, e = E (.own (.list ((pre.foldl grow [[]]).map iT))) x) ⟨x0, rfl⟩ ?_ ?_
  · rintro pre a post hl e ⟨x, rfl⟩
    have hpl : pre.length ≤ 12 := by have := congrArg List.length hl; simp [hsl] at this; omega
    have hln := allSel_len pre [[]]
    have hp2 : 2 ^ pre.length ≤ 2 ^ 12 := Nat.pow_le_pow_right (by omega) hpl
    obtain ⟨e1, b1, b2⟩ := turn (pre.foldl grow [[]]) a x (by rw [hln]; simpa using hp2) fun s hs => by
      have := (allSel_sub pre [[]] [] (by simp) s hs).length_le
      simp at this; omega
    exact ⟨e1, b1, wR_imp b2 fun fl e2 ⟨hf, x', he⟩ => ⟨hf, .i ⟨x', by rw [he, List.foldl_append]; rfl⟩⟩⟩
  · rintro e ⟨x, rfl⟩
    exact fin x
end
theorem moved_nil (vs : List Int) : pMoved vs [] = vs := by
  unfold pMoved
  rw [List.filter_eq_nil_iff.mpr (by simp), List.filter_eq_self.mpr (by simp)]; rfl
theorem after_nils (vs : List Int) : ∀ m, pAfter vs (List.replicate m []) = vs
  | 0 => rfl
  | m + 1 => by
    rw [List.replicate_succ]
    show pAfter (pMoved vs []) _ = vs
    rw [moved_nil, after_nils vs m]
theorem cost_nils (g : Int → Int) : ∀ m, pCost g (List.replicate m []) = 0
  | 0 => rfl
  | m + 1 => by
    rw [List.replicate_succ]
    show 0 + pCost g _ = 0
    rw [cost_nils g m]; rfl
theorem cost_nn {vs ws : List Int} (nd : vs.Nodup) (gw : GoodW vs ws) {rows : List (List Int)} (h : ∀ r ∈ rows, GoodSel vs r) : 0 ≤ pCost (wt vs ws) rows := by
  rw [pCost_occ (wt vs ws) (tg := vs) nd fun r hr => ⟨(h r hr).2, (h r hr).1⟩]
  exact pS_mono (g := fun i => wt vs ws (vs.getD i 0) * (occ rows (vs.getD i 0) : Nat)) (a := 0) (b := vs.length) (Nat.zero_le _) fun i _ hi => by
    have hv : vs.getD i 0 ∈ vs := by simp [hi]
    have := gw.2 _ (List.mem_of_getElem? (wt_at gw.1 hv))
    exact Int.mul_nonneg (by omega) (Int.natCast_nonneg _)
/-- nothing to be moved costs nothing -/
theorem lc_self {vs ws : List Int} (nd : vs.Nodup) (gw : GoodW vs ws) (n : Nat) : lc vs vs ws n = .int 0 := by
  have hm := plan_min (wt vs ws) nd (List.Perm.refl vs) n
  have hgood : ∀ r ∈ List.replicate n ([] : List Int), GoodSel vs r := fun r hr => by rw [(List.mem_replicate.mp hr).2]; exact ⟨by simp, by simp⟩
  have hs : (List.replicate n ([] : List Int)).length = n ∧ (∀ r ∈ List.replicate n ([] : List Int), GoodSel vs r) ∧ pAfter vs (List.replicate n []) = vs := ⟨by simp, hgood, after_nils vs n⟩
  unfold lc
  rw [oC_oI]
  generalize (bt (wAt (wt vs ws) vs) (clB vs vs) n 0 vs.length).map (·.1) = r at hm
  cases r with
  | none => exact absurd hs (hm _)
  | some x =>
    obtain ⟨⟨f, ⟨f1, f2, f3⟩, f4⟩, m⟩ := hm
    have a1 := m _ hs
    rw [cost_nils] at a1
    have a2 := cost_nn nd gw f2
    show PyData.int x = .int 0
    congr 1
    omega
theorem sel_len {vs r : List Int} (nd : vs.Nodup) (h : GoodSel vs r) : r.length ≤ vs.length := by
  have := (asc_sub (sortI_lt nd) h.2 fun v hv => (sortI_perm vs).mem_iff.mpr (h.1 v hv)).length_le
  rwa [(sortI_perm vs).length_eq] at this
end BT
namespace BT
open PySem
/-! ## all rearrangements, as the laws make them -/
def insA (x : Int) (row : List Int) : List (List Int) := (List.range (row.length + 1)).map fun i => row.take i ++ [x] ++ row.drop i
def stepO (x : Int) (found : List (List Int)) : List (List Int) := found.flatMap (insA x)
def ordersOf (vs : List Int) : List (List Int) := vs.foldl (fun found x => stepO x found) [[]]
theorem orders_snoc (vs : List Int) (x : Int) : ordersOf (vs ++ [x]) = stepO x (ordersOf vs) := by unfold ordersOf; rw [List.foldl_append]; rfl
theorem ins_mem {x : Int} {row t : List Int} : t ∈ insA x row ↔ ∃ a b, row = a ++ b ∧ t = a ++ x :: b := by
  unfold insA
  rw [List.mem_map]
  constructor
  · rintro ⟨i, _, rfl⟩
    exact ⟨row.take i, row.drop i, (List.take_append_drop i row).symm, by rw [List.append_assoc]; rfl⟩
  · rintro ⟨a, b, rfl, rfl⟩
    refine ⟨a.length, List.mem_range.mpr (by rw [List.length_append]; omega), ?_⟩
    rw [List.take_left, List.drop_left, List.append_assoc]; rfl
theorem rev_ind {α : Type} {P : List α → Prop} (h0 : P []) (h : ∀ l x, P l → P (l ++ [x])) : ∀ l, P l := by
  intro l
  have : ∀ m : List α, P m.reverse := fun m => by
    induction m with
    | nil => exact h0
    | cons x m ih => rw [List.reverse_cons]; exact h _ x ih
  have := this l.reverse
  rwa [List.reverse_reverse] at this
theorem mid_perm {α : Type} (a : List α) (x : α) (b : List α) : (a ++ x :: b).Perm (a ++ b ++ [x]) := by
  refine List.perm_middle.trans ?_
  exact (List.perm_append_comm (l₁ := [x]) (l₂ := a ++ b))
theorem orders_mem : ∀ (vs t : List Int), t ∈ ordersOf vs ↔ t.Perm vs := by
  refine rev_ind (P := fun vs => ∀ t, t ∈ ordersOf vs ↔ t.Perm vs) (fun t => ?_) fun vs x ih t => ?_
  · show t ∈ [[]] ↔ _
    rw [List.mem_singleton]
    exact ⟨fun h => by rw [h], fun h => h.eq_nil⟩
  · rw [orders_snoc]
    unfold stepO
    rw [List.mem_flatMap]
    constructor
    · rintro ⟨r, hr, ht⟩
      obtain ⟨a, b, rfl, rfl⟩ := ins_mem.mp ht
      exact (mid_perm a x b).trans (((ih _).mp hr).append_right _)
    · intro hp
      have hx : x ∈ t := hp.mem_iff.mpr (by simp)
      obtain ⟨a, b, rfl⟩ := List.append_of_mem hx
      refine ⟨a ++ b, (ih _).mpr ?_, ins_mem.mpr ⟨a, b, rfl, rfl⟩⟩
      have h1 := (mid_perm a x b).symm.trans hp
      exact (List.perm_append_right_iff [x]).mp h1
theorem ins_erase {x : Int} {row t : List Int} (hx : x ∉ row) (h : t ∈ insA x row) : t.erase x = row := by
  obtain ⟨a, b, rfl, rfl⟩ := ins_mem.mp h
  rw [List.erase_append_right _ (fun z => hx (List.mem_append_left _ z)), List.erase_cons_head]
theorem ins_nodup {x : Int} {row : List Int} (hx : x ∉ row) : (insA x row).Nodup := by
  unfold insA
  refine List.pairwise_map.mpr (List.pairwise_lt_range.imp_of_mem fun {i j} hi hj hij e => ?_)
  have hi := List.mem_range.mp hi
  have hj := List.mem_range.mp hj
  have h1 : ∀ i, i ≤ row.length → (row.take i ++ [x] ++ row.drop i).idxOf x = i := fun i hi => by
    rw [List.append_assoc, List.idxOf_append, if_neg fun z => hx (List.mem_of_mem_take z)]
    simp; omega
  have := congrArg (List.idxOf x) e
  rw [h1 i (by omega), h1 j (by omega)] at this
  omega
theorem orders_nodup : ∀ {vs : List Int}, vs.Nodup → (ordersOf vs).Nodup := by
  intro vs
  refine rev_ind (P := fun vs => vs.Nodup → (ordersOf vs).Nodup) (fun _ => ?_) (fun vs x ih nd => ?_) vs
  · show ([[]] : List (List Int)).Nodup
    simp
  · have hn := List.nodup_append.mp nd
    have hx : x ∉ vs := fun z => hn.2.2 x z x (by simp) rfl
    rw [orders_snoc]
    unfold stepO
    have hxr : ∀ r ∈ ordersOf vs, x ∉ r := fun r hr z => hx (((orders_mem vs r).mp hr).mem_iff.mp z)
    refine List.pairwise_flatMap.mpr ⟨fun r hr => ins_nodup (hxr r hr), (ih hn.1).imp_of_mem fun {a b} ha hb hne t ht t' ht' e => hne ?_⟩
    subst e
    rw [← ins_erase (hxr a ha) ht, ← ins_erase (hxr b hb) ht']
def fact : Nat → Nat
  | 0 => 1
  | n + 1 => (n + 1) * fact n
theorem step_len (x : Int) (n : Nat) : ∀ found : List (List Int), (∀ r ∈ found, r.length = n) → (stepO x found).length = found.length * (n + 1)
  | [], _ => by simp [stepO]
  | r :: found, h => by
    have ih := step_len x n found fun q hq => h q (List.mem_cons_of_mem _ hq)
    have h1 := h r List.mem_cons_self
    unfold stepO at ih ⊢
    rw [List.flatMap_cons, List.length_append, ih]
    unfold insA
    rw [List.length_map, List.length_range, h1, List.length_cons, Nat.add_mul]
    omega
theorem orders_len : ∀ vs : List Int, (ordersOf vs).length = fact vs.length := by
  refine rev_ind rfl fun vs x ih => ?_
  rw [orders_snoc, step_len x vs.length _ fun r hr => ((orders_mem vs r).mp hr).length_eq, ih, List.length_append, List.length_singleton]
  show _ = (vs.length + 1) * fact vs.length
  rw [Nat.mul_comm]
theorem fact_mono {m n : Nat} (h : m ≤ n) : fact m ≤ fact n := by
  induction n with
  | zero => have : m = 0 := by omega
            subst this; exact Nat.le_refl _
  | succ n ih =>
    by_cases e : m = n + 1
    · subst e; exact Nat.le_refl _
    · refine Nat.le_trans (ih (by omega)) ?_
      show fact n ≤ (n + 1) * fact n
      exact Nat.le_mul_of_pos_left _ (by omega)
section
variable {T : Tab} {k : Nat}
theorem orders_run (hk : 1 ≤ k) {f : String} (hT : T f = some f_law_orders) {vs : List Int} (hv : vs.length ≤ 9) : callk T k f [iT vs] .none = .ok (.list ((ordersOf vs).map iT)) .none := by
  refine wC_is (wC_runk (by omega) hT rfl fun j hj => ?_)
  generalize callk T j = C
  simp [f_law_orders, b_law_orders, -List.map_map, -List.any_map, -List.all_map]
  refine for_pre (fun pre e => ∃ x1 x2 x3 x4, (x1 = .own (.list ((ordersOf pre).map iT)) ∨ x1 = .val (.list ((ordersOf pre).map iT))) ∧ e = [.val (iT vs), x1, x2, x3, x4, .no]) ⟨_, _, _, _, .inl rfl, rfl⟩ ?_ ?_
  · rintro pre x post hpre e ⟨x1, x2, x3, x4, h1, rfl⟩
    have hpl : pre.length + 1 ≤ vs.length := by rw [hpre]; simp
    have hfl : fact (pre.length + 1) ≤ 362880 := Nat.le_trans (fact_mono (show pre.length + 1 ≤ 9 by omega)) (by decide)
    have hsl := orders_len (pre ++ [x])
    rw [List.length_append, List.length_singleton] at hsl
    have main : ∀ {R : Fl → Env → Prop}, (∀ x4, R .next [.val (iT vs), .val (.list ((ordersOf pre).map iT)), .val (.int x), .own (.list ((ordersOf (pre ++ [x])).map iT)), x4, .no]) → wpFor C (.v 4) b_law_orders_L1 ((ordersOf pre).map iT) [.val (iT vs), .val (.list ((ordersOf pre).map iT)), .val (.int x), .own (.list []), x4, .no] R := fun {R} fin => by
      refine for_pre (fun p e => ∃ x4, e = [.val (iT vs), .val (.list ((ordersOf pre).map iT)), .val (.int x), .own (.list ((stepO x p).map iT)), x4, .no]) ⟨_, rfl⟩ ?_ ?_
      · rintro p r post2 hp e ⟨x4, rfl⟩
        have hr : r ∈ ordersOf pre := by rw [hp]; simp
        have hrl : r.length = pre.length := ((orders_mem pre r).mp hr).length_eq
        have hst : (stepO x p).length + (r.length + 1) ≤ 1000000 := by
          have e1 : ordersOf (pre ++ [x]) = stepO x p ++ insA x r ++ stepO x post2 := by
            rw [orders_snoc, hp]; unfold stepO; rw [List.flatMap_append, List.flatMap_cons, List.append_assoc]
          have e2 := congrArg List.length e1
          have e3 : (insA x r).length = r.length + 1 := by simp [insA]
          rw [List.length_append, List.length_append, hsl, e3] at e2
          omega
        have sm : smallI ((r.length : Int) + 1) = true := decide_eq_true (show _ ∧ _ by omega)
        have e4 : ((r.length : Int) + 1).toNat = r.length + 1 := by omega
        have lg : r.length + 1 ≤ 1000000 := by omega
        simp [turnS, b_law_orders_L1, -List.map_map, -List.any_map, -List.all_map, sm, e4, lg, rngL]
        refine lc_wp (fun i : Nat => iT (r.take i ++ [x] ++ r.drop i)) (fun i hi => ?_) ?_
        · have hi := List.mem_range.mp hi
          have l1 : min i r.length + 1 ≤ 1000000 := by omega
          have l2 : min i r.length + (r.length - i + 1) ≤ 1000000 := by omega
          have l3 : min i r.length + 1 + (r.length - i) ≤ 1000000 := by omega
          simp [-List.map_map, -List.any_map, -List.all_map, l1, l2, l3]
        · have e5 : ((List.range (r.length + 1)).map fun i : Nat => iT (r.take i ++ [x] ++ r.drop i)) = (insA x r).map iT := by unfold insA; rw [List.map_map]; rfl
          have e6 : (insA x r).length = r.length + 1 := by simp [insA]
          rw [e5]
          simp [-List.map_map, -List.any_map, -List.all_map, hst, e6]
          exact .i ⟨_, by unfold stepO; rw [List.flatMap_append, List.map_append]; simp; rfl⟩
      · rintro e ⟨x4, rfl⟩
        have := fin x4
        rwa [orders_snoc] at this
    rcases h1 with rfl | rfl
    all_goals
      simp [turnS, b_law_orders_L2, -List.map_map, -List.any_map, -List.all_map]
      refine main fun x4 => ?_
      simp [-List.map_map, -List.any_map, -List.all_map]
      exact .i ⟨_, _, _, _, .inr rfl, rfl⟩
  · rintro e ⟨x1, x2, x3, x4, h1, rfl⟩
    rcases h1 with rfl | rfl
    all_goals simp [-List.map_map, -List.any_map, -List.all_map]
end
end BT
namespace BT
open PySem
/-! ## numbers of breaks over all rearrangements -/
def rgn (s : Nat) : List Int := (List.range s).map fun i : Nat => (i : Int)
theorem rgn_len (s : Nat) : (rgn s).length = s := by simp [rgn]
theorem rgn_get {s i : Nat} (h : i < (rgn s).length) : (rgn s)[i] = (i : Int) := by simp [rgn]
theorem rgn_nodup (s : Nat) : (rgn s).Nodup := List.pairwise_map.mpr (List.pairwise_lt_range.imp fun {i j} h e => by
  have : i = j := by omega
  omega)
theorem rgn_D (s : Nat) : PyData.tuple (rngL 0 s) = iT (rgn s) := by
  have e : rngL 0 s = (rgn s).map PyData.int := by
    unfold rngL rgn
    rw [List.map_map]
    refine List.map_congr_left fun i _ => ?_
    show PyData.int (0 + (i : Int)) = .int i
    rw [Int.zero_add]
  rw [e]
theorem rgn_mem {s : Nat} {v : Int} : v ∈ rgn s ↔ 0 ≤ v ∧ v < s := by
  unfold rgn
  rw [List.mem_map]
  constructor
  · rintro ⟨i, hi, rfl⟩
    have := List.mem_range.mp hi
    omega
  · rintro ⟨h1, h2⟩
    exact ⟨v.toNat, List.mem_range.mpr (by omega), by omega⟩
theorem rgn_ix {s : Nat} {v : Int} (h : v ∈ rgn s) : ((ix (rgn s) v : Nat) : Int) = v := by
  obtain ⟨i, hi, rfl⟩ := List.getElem_of_mem h
  have : ix (rgn s) (rgn s)[i] = i := (rgn_nodup s).idxOf_getElem i hi
  rw [this, rgn_get]
theorem rgn_good {s : Nat} (h1 : 1 ≤ s) (h2 : s ≤ 12) : GoodL (rgn s) := ⟨by rw [rgn_len]; exact h1, by rw [rgn_len]; exact h2, fun v hv => by have := rgn_mem.mp hv; omega, rgn_nodup s⟩
/-- falls between neighbours -/
def desc : List Int → Nat
  | x :: y :: l => (if y < x then 1 else 0) + desc (y :: l)
  | _ => 0
theorem filter_rs (p : Nat → Bool) (n : Nat) : ((List.range (n + 1)).filter p).length = (if p 0 then 1 else 0) + ((List.range n).filter fun i => p (i + 1)).length := by
  rw [List.range_succ_eq_map, List.filter_cons, List.filter_map]
  have e : (p ∘ Nat.succ) = fun i => p (i + 1) := rfl
  rw [e]
  by_cases h : p 0
  · simp [h]; omega
  · simp [h]
theorem desc_cnt (tg : List Int) : desc tg = ((List.range (tg.length - 1)).filter fun i => decide (tg.getD (i + 1) 0 < tg.getD i 0)).length := by
  induction tg with
  | nil => rfl
  | cons x l ih =>
    cases l with
    | nil => rfl
    | cons y l =>
      show (if y < x then 1 else 0) + desc (y :: l) = _
      have e : (x :: y :: l).length - 1 = ((y :: l).length - 1) + 1 := by simp
      rw [e, filter_rs, ih]
      congr 1
      show _ = if decide (y < x) = true then 1 else 0
      simp only [decide_eq_true_eq]
theorem breaks_desc {s : Nat} {tg : List Int} (h : ∀ v ∈ tg, v ∈ rgn s) : (pBreaks (rgn s) tg).length = desc tg := by
  rw [pBreaks_eq, List.length_map, desc_cnt]
  congr 1
  refine List.filter_congr fun i hi => ?_
  have hi := List.mem_range.mp hi
  refine decide_eq_decide.mpr ?_
  have h1 : i < tg.length := by omega
  have h2 : i + 1 < tg.length := by omega
  have e1 := rgn_ix (h _ (List.getElem_mem h1))
  have e2 := rgn_ix (h _ (List.getElem_mem h2))
  rw [brk_iff h2]
  have g1 : tg.getD i 0 = tg[i] := by simp [h1]
  have g2 : tg.getD (i + 1) 0 = tg[i + 1] := by simp [h2]
  rw [g1, g2]
  omega
/-- the program's table -/
def padE (cs : List Int) : List Int := [0] ++ cs ++ [0]
def eStep (n : Nat) (cs : List Int) : List Int := (List.range n).map fun a : Nat => ((a : Int) + 1) * (padE cs).getD (a + 1) 0 + ((n : Int) - (a : Int)) * (padE cs).getD a 0
def eb : Nat → List Int
  | 0 => [1]
  | m + 1 => eStep (m + 2) (eb m)
theorem eb_len : ∀ m, (eb m).length = m + 1
  | 0 => rfl
  | m + 1 => by simp [eb, eStep]
def cb (size count : Nat) : Int := if count < size then (eb (size - 1)).getD count 0 else 0
section
variable {T : Tab} {k : Nat}
theorem estep_lc {C : Calls} {n : Nat} (hn : n ≤ 1000) {cs : List Int} (hc : cs.length + 1 = n) {e : Env} {i p q : Nat} {R : D → Env → Prop}
    (body : ∀ a : Nat, a < n → ∃ e1, bindT (.v i) (.int (a : Int)) (wipeE e [i]) = some e1 ∧ wpE C (.bin .Add (.bin .Mult (.bin .Add (.b i) (.k (.int (1)))) (.ix (.b p) (.bin .Add (.b i) (.k (.int (1)))))) (.bin .Mult (.bin .Sub (.b q) (.b i)) (.ix (.b p) (.b i)))) e1 fun d e2 => d = .int (((a : Int) + 1) * (padE cs).getD (a + 1) 0 + ((n : Int) - (a : Int)) * (padE cs).getD a 0) ∧ wipeE e2 [i] = wipeE e [i] ∧ e2.length = e.length)
    (fin : R (iL (eStep n cs)) e) : wpL C [i] (.bin .Add (.bin .Mult (.bin .Add (.b i) (.k (.int (1)))) (.ix (.b p) (.bin .Add (.b i) (.k (.int (1)))))) (.bin .Mult (.bin .Sub (.b q) (.b i)) (.ix (.b p) (.b i)))) (.v i) (rngL 0 n) e R := by
  unfold rngL
  refine lc_wp (fun a : Nat => .int (((a : Int) + 1) * (padE cs).getD (a + 1) 0 + ((n : Int) - (a : Int)) * (padE cs).getD a 0)) (fun a ha => ?_) ?_
  · have := body a (List.mem_range.mp ha)
    rwa [Int.zero_add]
  · have e1 : ((List.range n).map fun a : Nat => PyData.int (((a : Int) + 1) * (padE cs).getD (a + 1) 0 + ((n : Int) - (a : Int)) * (padE cs).getD a 0)) = (eStep n cs).map PyData.int := by unfold eStep; rw [List.map_map]; rfl
    rw [e1]
    exact fin
theorem pad_at (cs : List Int) {i : Nat} (h : i < cs.length + 2) : ((padE cs).map PyData.int)[i]? = some (.int ((padE cs).getD i 0)) := by
  have hl : i < (padE cs).length := by simp [padE]; omega
  rw [List.getElem?_map, List.getElem?_eq_getElem hl]
  simp [hl]
theorem breakcounts_ok (B : Base T) (hk : 1 ≤ k) (s : Nat) (h0 : 1 ≤ s) (hs : s ≤ 1000) : callk T k "break_counts" [.int s] .none = .ok (iL (eb (s - 1))) .none := by
  refine wC_is (wC_runk (by omega) (B.ext _ _ tt_break_counts) rfl fun j hj => ?_)
  have s1 : smallI ((s : Int) + 1) = true := decide_eq_true (show _ ∧ _ by omega)
  have s2 : smallI 2 = true := by decide
  have e1 : ((s : Int) + 1 - 2).toNat = s - 1 := by omega
  simp [f_break_counts, b_break_counts, -List.map_map, -List.any_map, -List.all_map, s1, s2, e1]
  refine for_h (fun i e => ∃ x2 x3 x1, (x1 = .own (iL (eb i)) ∨ x1 = .val (iL (eb i))) ∧ e = [.val (.int s), x1, x2, x3, .no]) ⟨_, _, _, .inl rfl, rfl⟩ ?_ ?_
  · rintro i hi e ⟨x2, x3, x1, h1, rfl⟩
    have hi' : i < s - 1 := by simpa [rngL] using hi
    rw [rngL_at hi]
    have hl := eb_len i
    have l1 : (eb i).length + 1 ≤ 1000000 := by omega
    have l2 : (eb i).length + 2 ≤ 1000000 := by omega
    have l3 : (eb i).length + 1 + 1 ≤ 1000000 := by omega
    have e2 : (2 : Int) + (i : Int) = ((i + 2 : Nat) : Int) := by omega
    have s3 : smallI ((i + 2 : Nat) : Int) = true := decide_eq_true (show _ ∧ _ by omega)
    have hpd : PyData.int 0 :: ((eb i).map PyData.int ++ [PyData.int 0]) = (padE (eb i)).map PyData.int := by simp [padE]
    have e3 : (i + 2) ≤ 1000000 := by omega
    have l4 : (padE (eb i)).length ≤ 1000000 := by simp [padE]; omega
    rcases h1 with rfl | rfl
    all_goals
      simp [turnS, b_break_counts_L1, -List.map_map, -List.any_map, -List.all_map, l1, l2, l3, l4, e2, s3, hpd, e3, rngL_len, -Int.natCast_add]
      refine estep_lc (n := i + 2) (cs := eb i) (by omega) (by omega) (fun a ha => ?_) ?_
      · have p1 := pad_at (eb i) (i := a + 1) (by omega)
        have p2 := pad_at (eb i) (i := a) (by omega)
        have m1 : mulOk ((a + 1 : Nat) : Int) ((padE (eb i)).getD (a + 1) 0) = true := mul_small' (by omega)
        have m2 : mulOk (((i + 2 : Nat) : Int) - (a : Int)) ((padE (eb i)).getD a 0) = true := mul_small' (by omega)
        have e4 : (a : Int) + 1 = ((a + 1 : Nat) : Int) := by omega
        rw [e4]
        simp [-List.map_map, -List.any_map, -List.all_map, e4, p1, p2, m1, m2, -Int.natCast_add, -List.getD_eq_getElem?_getD, -List.getElem?_map]
      · simp [-List.map_map, -List.any_map, -List.all_map]
        exact .i ⟨_, _, _, .inl rfl, rfl⟩
  · rintro e ⟨x2, x3, x1, h1, rfl⟩
    have hr : (rngL 2 (s - 1)).length = s - 1 := rngL_len
    rw [hr] at h1
    rcases h1 with rfl | rfl
    all_goals simp [-List.map_map, -List.any_map, -List.all_map]
theorem countbreaks_ok (B : Base T) (hk : 3 ≤ k) (s c : Nat) (h0 : 1 ≤ s) (hs : s ≤ 12) (hc : c ≤ 30) : callk T k "count_breaks" [.int s, .int c] .none = .ok (.int (cb s c)) .none := by
  refine wC_is (wC_runk (by omega) (B.ext _ _ tt_count_breaks) rfl fun j hj => ?_)
  have cs := checksize_ok B (k := j) (by omega) s h0 hs
  have bt := between_ok B (k := j) (by omega) (c : Int) 0 30
  have hc' : (c : Int) ≤ 30 := by omega
  have bc := breakcounts_ok B (k := j) (by omega) s h0 (by omega)
  have hl := eb_len (s - 1)
  by_cases h : c < s
  · have hlt : c < (eb (s - 1)).length := by omega
    simp [f_count_breaks, b_count_breaks, -List.map_map, -List.any_map, -List.all_map, wC_eq cs, wC_eq bt, hc', h, wC_eq bc, hlt, cb]
  · simp [f_count_breaks, b_count_breaks, -List.map_map, -List.any_map, -List.all_map, wC_eq cs, wC_eq bt, hc', h, cb]
theorem countlists_ok (B : Base T) (hk : 3 ≤ k) (s n : Nat) (h0 : 1 ≤ s) (hs : s ≤ 12) (hn : n ≤ 30) : callk T k "count_lists" [.int s, .int n] .none = .ok (.int ((eb (s - 1)).take (2 ^ n)).sum) .none := by
  refine wC_is (wC_runk (by omega) (B.ext _ _ tt_count_lists) rfl fun j hj => ?_)
  have cs := checksize_ok B (k := j) (by omega) s h0 hs
  have cn := checknumber_ok B (k := j) (by omega) n hn
  have pw := power_ok B (k := j) (by omega) n (by omega)
  have s1 : smallI ((s : Int) + 1) = true := decide_eq_true (show _ ∧ _ by omega)
  have s2 : smallI 2 = true := by decide
  have e1 : ((s : Int) + 1 - 2).toNat = s - 1 := by omega
  simp [f_count_lists, b_count_lists, -List.map_map, -List.any_map, -List.all_map, wC_eq cs, wC_eq cn, s1, s2, e1]
  refine for_h (fun i e => ∃ x3 x4 x2, (x2 = .own (iL (eb i)) ∨ x2 = .val (iL (eb i))) ∧ e = [.val (.int s), .val (.int n), x2, x3, x4, .no]) ⟨_, _, _, .inl rfl, rfl⟩ ?_ ?_
  · rintro i hi e ⟨x3, x4, x2, h1, rfl⟩
    have hi' : i < s - 1 := by simpa [rngL] using hi
    rw [rngL_at hi]
    have hl := eb_len i
    have l1 : (eb i).length + 1 ≤ 1000000 := by omega
    have l2 : (eb i).length + 2 ≤ 1000000 := by omega
    have l3 : (eb i).length + 1 + 1 ≤ 1000000 := by omega
    have e2 : (2 : Int) + (i : Int) = ((i + 2 : Nat) : Int) := by omega
    have s3 : smallI ((i + 2 : Nat) : Int) = true := decide_eq_true (show _ ∧ _ by omega)
    have hpd : PyData.int 0 :: ((eb i).map PyData.int ++ [PyData.int 0]) = (padE (eb i)).map PyData.int := by simp [padE]
    have e3 : (i + 2) ≤ 1000000 := by omega
    have l4 : (padE (eb i)).length ≤ 1000000 := by simp [padE]; omega
    rcases h1 with rfl | rfl
    all_goals
      simp [turnS, b_count_lists_L1, -List.map_map, -List.any_map, -List.all_map, l1, l2, l3, l4, e2, s3, hpd, e3, rngL_len, -Int.natCast_add]
      refine estep_lc (n := i + 2) (cs := eb i) (by omega) (by omega) (fun a ha => ?_) ?_
      · have p1 := pad_at (eb i) (i := a + 1) (by omega)
        have p2 := pad_at (eb i) (i := a) (by omega)
        have m1 : mulOk ((a + 1 : Nat) : Int) ((padE (eb i)).getD (a + 1) 0) = true := mul_small' (by omega)
        have m2 : mulOk (((i + 2 : Nat) : Int) - (a : Int)) ((padE (eb i)).getD a 0) = true := mul_small' (by omega)
        have e4 : (a : Int) + 1 = ((a + 1 : Nat) : Int) := by omega
        rw [e4]
        simp [-List.map_map, -List.any_map, -List.all_map, e4, p1, p2, m1, m2, -Int.natCast_add, -List.getD_eq_getElem?_getD, -List.getElem?_map]
      · simp [-List.map_map, -List.any_map, -List.all_map]
        exact .i ⟨_, _, _, .inl rfl, rfl⟩
  · rintro e ⟨x3, x4, x2, h1, rfl⟩
    have hr : (rngL 2 (s - 1)).length = s - 1 := rngL_len
    rw [hr] at h1
    have e5 : (2 : Int) ^ n = ((2 ^ n : Nat) : Int) := by simp
    rw [e5] at pw
    rcases h1 with rfl | rfl
    all_goals
      simp [-List.map_map, -List.any_map, -List.all_map, wC_eq pw, -Int.natCast_pow]
      rw [← List.map_take, ints_map]
      simp [-List.map_map, -List.any_map, -List.all_map]
end
end BT
namespace BT.Gk29
open PySem PySem.Spec PyProof.Rows L2 BT
abbrev top (i : Nat) : Stmt := PySem.Challenge.pw_batchtop_k29_lists_with_so_many_breaks.main.body.getD i (.Pass ⟨0, 0, 0, 0⟩)
def fsL : List FI := [
  ⟨"is_between", "is_between", false, false, 3⟩,
  ⟨"check_number", "check_number", false, false, 1⟩,
  ⟨"power", "power", false, false, 1⟩,
  ⟨"check_size", "check_size", false, false, 1⟩,
  ⟨"count_lists", "count_lists", false, false, 2⟩,
  ⟨"break_counts", "break_counts", false, false, 1⟩,
  ⟨"count_breaks", "count_breaks", false, false, 2⟩,
  ⟨"_law_source", "_law_source", false, true, 2⟩,
  ⟨"_law_draw", "_law_draw", true, false, 1⟩,
  ⟨"_law_kind", "_law_kind", false, false, 1⟩,
  ⟨"_law_equal", "_law_equal", false, false, 2⟩,
  ⟨"_law_breaks", "_law_breaks", false, false, 2⟩,
  ⟨"_law_two_to", "_law_two_to", false, false, 1⟩,
  ⟨"_law_orders", "_law_orders", false, false, 1⟩,
  ⟨"law", "law", false, false, 1⟩]
def ksL : List (Str × D) := [("MAX_ITEMS", .int (12)), ("MAX_MOVES", .int (30))]
def N_is_between : List Str := ["value", "low", "high"]
def N_check_number : List Str := ["number"]
def N_power : List Str := ["number", "found", "turn"]
def N_check_size : List Str := ["size"]
def N_count_lists : List Str := ["size", "number", "counts", "items", "padded", "at"]
def N_break_counts : List Str := ["size", "counts", "items", "padded", "at"]
def N_count_breaks : List Str := ["size", "count"]
def N_law_source : List Str := ["cell", "turn"]
def N_law_draw : List Str := ["source", "size", "drawn", "number"]
def N_law_kind : List Str := ["value"]
def N_law_equal : List Str := ["value", "expected", "k", "part"]
def N_law_breaks : List Str := ["values", "target", "places", "item", "at"]
def N_law_two_to : List Str := ["number", "found", "turn"]
def N_law_orders : List Str := ["values", "found", "item", "longer", "row", "at"]
def N_law : List Str := ["script", "size", "values", "counts", "order", "at", "count", "cell", "source", "number", "rows", "whole", "one"]
def b_law_source : ISs := (.cons (.if_ (.cmp .GtE (.b 0) (.bin .Pow (.k (.int (10))) (.k (.int (18))))) (.cons (.retF (.lst (.cons (.bin .Sub (.b 0) (.bin .Pow (.k (.int (10))) (.k (.int (18))))) (.cons (.bin .Mod (.pr .int (.b 0)) (.k (.int (2147483579)))) (.cons (.v 1) .nil))))) .nil) .nil) (.cons (.retF (.lst (.cons (.k (.int (0))) (.cons (.bin .Mod (.pr .int (.b 0)) (.k (.int (2147483579)))) (.cons (.v 1) .nil))))) .nil))
def f_law_source : Fn := ⟨2, 2, false, true, b_law_source⟩
def b_law_draw : ISs := (.cons (.if_ (.cmp .Gt (.ix (.b 0) (.k (.int (0)))) (.k (.int (1)))) (.cons (.asg 2 (.bin .Mod (.pr .int (.ix (.b 0) (.k (.int (0))))) (.b 1))) (.cons (.setI 0 (.k (.int (0))) (.bin .FloorDiv (.ix (.b 0) (.k (.int (0)))) (.b 1))) (.cons (.ret (.v 2)) .nil))) .nil) (.cons (.setI 0 (.k (.int (2))) (.bin .Add (.ix (.b 0) (.k (.int (2)))) (.k (.int (1))))) (.cons (.asg 3 (.bin .Mod (.pr .int (.bin .Pow (.bin .Add (.ix (.b 0) (.k (.int (1)))) (.bin .Mult (.k (.int (15485867))) (.ix (.b 0) (.k (.int (2)))))) (.k (.int (5))))) (.k (.int (2147483647))))) (.cons (.asg 2 (.bin .FloorDiv (.bin .Mod (.pr .int (.bin .Pow (.bin .Add (.b 3) (.bin .Mult (.k (.int (7919))) (.ix (.b 0) (.k (.int (2)))))) (.k (.int (3))))) (.k (.int (2147483629)))) (.k (.int (32))))) (.cons (.ret (.bin .Mod (.pr .int (.b 2)) (.b 1))) .nil)))))
def f_law_draw : Fn := ⟨1, 4, true, false, b_law_draw⟩
def b_law_L1 : ISs := (.cons (.asg 5 (.pr .len (.call "_law_breaks" (.cons (.v 2) (.cons (.v 4) .nil))))) (.cons (.setI 3 (.v 5) (.bin .Add (.ix (.b 3) (.b 5)) (.k (.int (1))))) .nil))
def b_law_L2 : ISs := (.cons (.if_ (.not (.call "_law_equal" (.cons (.call "count_breaks" (.cons (.v 1) (.cons (.v 6) .nil))) (.cons (.ix (.b 3) (.b 6)) .nil)))) (.cons (.ret (.k (.bool false))) .nil) .nil) .nil)
def b_law_L3 : ISs := (.cons (.asg 2 (.trg (.v 1))) (.cons (.asg 3 (.bin .Mult (.lst (.cons (.k (.int (0))) .nil)) (.k (.int (31))))) (.cons (.for_ (.v 4) (.e (.call "_law_orders" (.cons (.v 2) .nil))) b_law_L1) (.cons (.for_ (.v 6) (.r1 (.k (.int (31)))) b_law_L2) .nil))))
def b_law_L4 : ISs := (.cons (.asg 11 (.bin .Mult (.b 11) (.bin .Add (.b 12) (.k (.int (1)))))) .nil)
def b_law_L5 : ISs := (.cons (.asg 8 (.callF "_law_source" (.cons (.v 7) (.cons (.k (.int (29))) .nil)))) (.cons (.asg2 1 9 (.bin .Add (.k (.int (1))) (.callS "_law_draw" 8 (.cons (.k (.int (12))) .nil))) (.callS "_law_draw" 8 (.cons (.k (.int (31))) .nil))) (.cons (.asg 10 (.lc [6] (.call "count_breaks" (.cons (.v 1) (.cons (.v 6) .nil))) (.v 6) (.r1 (.k (.int (31)))))) (.cons (.asg 11 (.k (.int (1)))) (.cons (.for_ (.v 12) (.r1 (.v 1)) b_law_L4) (.cons (.if_ (.or (.cmp .NotEq (.pr .sum (.b 10)) (.b 11)) (.or (.cmp .NotEq (.slu (.b 10) (.b 1)) (.rev (.slu (.b 10) (.b 1)))) (.cmp .NotEq (.pr .sum (.sll (.b 10) (.b 1))) (.k (.int (0)))))) (.cons (.ret (.k (.bool false))) .nil) .nil) (.cons (.if_ (.cmp .NotEq (.call "count_lists" (.cons (.v 1) (.cons (.v 9) .nil))) (.pr .sum (.slu (.b 10) (.min2 (.k (.int (31))) (.call "_law_two_to" (.cons (.min2 (.v 9) (.k (.int (6)))) .nil)))))) (.cons (.ret (.k (.bool false))) .nil) .nil) .nil)))))))
def b_law : ISs := (.cons (.for_ (.v 1) (.r2 (.k (.int (1))) (.k (.int (7)))) b_law_L3) (.cons (.for_ (.v 7) (.e (.slu (.bin .Add (.lst (.cons (.k (.int (0))) .nil)) (.b 0)) (.k (.int (5))))) b_law_L5) (.cons (.ret (.and (.cmp .Eq (.call "count_breaks" (.cons (.k (.int (5))) (.cons (.k (.int (2))) .nil))) (.k (.int (66)))) (.cmp .Eq (.call "count_breaks" (.cons (.k (.int (12))) (.cons (.k (.int (11))) .nil))) (.k (.int (1)))))) .nil)))
def f_law : Fn := ⟨1, 13, false, false, b_law⟩
def tab : Tab := fun f =>
  if f = "_law_source" then some f_law_source
  else if f = "_law_draw" then some f_law_draw
  else if f = "law" then some f_law
  else TT f
theorem tab_ext : ∀ f fn, TT f = some fn → tab f = some fn := fun f fn h => by
  unfold tab
  rw [if_neg (fun e => by subst e; exact absurd ((show TT "_law_source" = none by kernel_rfl).symm.trans h) nofun)]
  rw [if_neg (fun e => by subst e; exact absurd ((show TT "_law_draw" = none by kernel_rfl).symm.trans h) nofun)]
  rw [if_neg (fun e => by subst e; exact absurd ((show TT "law" = none by kernel_rfl).symm.trans h) nofun)]
  exact h
theorem t_is_between : tab "is_between" = some BT.f_is_between := by kernel_rfl
theorem t_check_number : tab "check_number" = some BT.f_check_number := by kernel_rfl
theorem t_power : tab "power" = some BT.f_power := by kernel_rfl
theorem t_check_size : tab "check_size" = some BT.f_check_size := by kernel_rfl
theorem t_count_lists : tab "count_lists" = some BT.f_count_lists := by kernel_rfl
theorem t_break_counts : tab "break_counts" = some BT.f_break_counts := by kernel_rfl
theorem t_count_breaks : tab "count_breaks" = some BT.f_count_breaks := by kernel_rfl
theorem t_law_source : tab "_law_source" = some f_law_source := by kernel_rfl
theorem t_law_draw : tab "_law_draw" = some f_law_draw := by kernel_rfl
theorem t_law_kind : tab "_law_kind" = some BT.f_law_kind := by kernel_rfl
theorem t_law_equal : tab "_law_equal" = some BT.f_law_equal := by kernel_rfl
theorem t_law_breaks : tab "_law_breaks" = some BT.f_law_breaks := by kernel_rfl
theorem t_law_two_to : tab "_law_two_to" = some BT.f_law_two_to := by kernel_rfl
theorem t_law_orders : tab "_law_orders" = some BT.f_law_orders := by kernel_rfl
theorem t_law : tab "law" = some f_law := by kernel_rfl
end BT.Gk29
namespace BT.Gk29
open PySem PySem.Spec PyProof.Rows L2 BT
theorem base : Base tab := ⟨tab_ext, source2_ok t_law_source, draw2_ok t_law_draw⟩
/-- the law's count -/
def tly (c : List Int) (o : List Int) : List Int := c.set (desc o) (c.getD (desc o) 0 + 1)
def tallyO (s : Nat) : List Int := (ordersOf (rgn s)).foldl tly (List.replicate 31 0)
theorem tally_eq : ∀ s, s < 6 → tallyO (s + 1) = (List.range 31).map (cb (s + 1)) := by decide +kernel
def rowsC (s : Nat) : List Int := (List.range 31).map (cb s)
theorem sums_ok : ∀ d, d < 12 → (rowsC (d + 1)).sum = (fact (d + 1) : Int) ∧ (rowsC (d + 1)).take (d + 1) = ((rowsC (d + 1)).take (d + 1)).reverse ∧ ((rowsC (d + 1)).drop (d + 1)).sum = 0 := by decide +kernel
theorem lists_ok : ∀ d, d < 12 → ∀ n, n < 31 → ((eb d).take (2 ^ n)).sum = ((rowsC (d + 1)).take (min 31 (2 ^ min n 6))).sum := by decide +kernel
theorem cb5 : cb 5 2 = 66 := by decide +kernel
theorem cb12 : cb 12 11 = 1 := by decide +kernel
theorem desc_le (tg : List Int) : desc tg ≤ tg.length - 1 := by
  rw [desc_cnt]
  exact Nat.le_trans (List.length_filter_le _ _) (by rw [List.length_range]; exact Nat.le_refl _)
theorem tly_len (c o : List Int) : (tly c o).length = c.length := by simp [tly]
theorem rowsC_at {s c : Nat} (hc : c < 31) : ((rowsC s).map PyData.int)[c]? = some (.int (cb s c)) := by
  unfold rowsC
  rw [List.map_map, List.getElem?_map, List.getElem?_range hc]; rfl
theorem order_turn {C : Calls} {s : Nat} {o c : List Int} (hs : s ≤ 6) (hp : o.Perm (rgn s)) (hc : c.length = 31) (lb : C "_law_breaks" [iT (rgn s), iT o] .none = .ok (iL (pBreaks (rgn s) o)) .none) (x0 x1 x4 x5 x6 : Slot) :
    turnS C (.v 4) b_law_L1 (iT o) [x0, x1, .val (iT (rgn s)), .own (iL c), x4, x5, x6, .no, .no, .no, .no, .no, .no] fun fl e2 => fl = .next ∧ ((tly c o).length = 31 ∧ ∃ x4 x5, e2 = [x0, x1, .val (iT (rgn s)), .own (iL (tly c o)), x4, x5, x6, .no, .no, .no, .no, .no, .no]) := by
  have hl := hp.length_eq
  rw [rgn_len] at hl
  have bd := breaks_desc (s := s) (perm_in hp)
  have hd := desc_le o
  have hlt : desc o < c.length := by omega
  have hg : (c.map PyData.int)[desc o]? = some (.int (c.getD (desc o) 0)) := by
    rw [List.getElem?_map, List.getElem?_eq_getElem hlt]
    simp [hlt]
  have hst : (c.map PyData.int).set (desc o) (.int (c.getD (desc o) 0 + 1)) = (tly c o).map PyData.int := by unfold tly; rw [List.map_set]
  have hlen := tly_len c o
  simp [turnS, b_law_L1, -List.map_map, -List.any_map, -List.all_map, wC_eq lb, bd, hg, hst, hlen, hc, -List.getElem?_map, -List.getD_eq_getElem?_getD]
theorem law_k (k : Nat) (hk : k = 30) (ns : List Int) (h : ns.length ≤ 63) : callk tab k "law" [.list (ns.map PyData.int)] .none = .ok (.bool true) .none := by
  refine wC_is (wC_runk (show 1 ≤ k by omega) t_law rfl fun j hj => ?_)
  have hj : j = 29 := by omega
  have lg : 1 + ns.length ≤ 1000000 := by omega
  have lg' : ns.length + 1 ≤ 1000000 := by omega
  have s1 : smallI 1 = true := by decide
  have s7 : smallI 7 = true := by decide
  have s31 : smallI 31 = true := by decide
  generalize hC : callk tab j = C
  simp [f_law, b_law, -List.map_map, -List.any_map, -List.all_map, s1, s7]
  refine for_h (fun i e => ∃ x1 x2 x3 x4 x5 x6, ownD x6 = none ∧ e = [.val (iL ns), x1, x2, x3, x4, x5, x6, .no, .no, .no, .no, .no, .no]) ⟨_, _, _, _, _, _, rfl, rfl⟩ ?_ ?_
  · rintro i hi e ⟨x1, x2, x3, x4, x5, x6, h6, rfl⟩
    have hi' : i < 6 := by simpa [rngL] using hi
    rw [rngL_at hi]
    have e1 : (1 : Int) + (i : Int) = ((i + 1 : Nat) : Int) := by omega
    have sr : smallR ((i + 1 : Nat) : Int) = true := decide_eq_true (show _ ∧ _ by omega)
    have od := orders_run (k := j) (T := tab) (f := "_law_orders") (by omega) (tab_ext _ _ tt_law_orders) (vs := rgn (i + 1)) (by rw [rgn_len]; omega)
    rw [hC] at od
    have rd := rgn_D (i + 1)
    have e2 : ((i + 1 : Nat) : Int).toNat = i + 1 := by omega
    have e3 : List.replicate 31 (PyData.int 0) = (List.replicate 31 (0 : Int)).map PyData.int := by rw [List.map_replicate]
    simp [turnS, b_law_L3, -List.map_map, -List.any_map, -List.all_map, e1, sr, e2, rd, wC_eq od, s31, -Int.natCast_add, -List.reduceReplicate]
    rw [e3]
    refine for_st (fun c e => c.length = 31 ∧ ∃ x4 x5, e = [.val (iL ns), .val (.int ((i + 1 : Nat) : Int)), .val (iT (rgn (i + 1))), .own (iL c), x4, x5, x6, .no, .no, .no, .no, .no, .no]) tly (List.replicate 31 0) ⟨by simp, _, _, rfl⟩ ?_ ?_
    · rintro o ho c e ⟨hc, x4, x5, rfl⟩
      have hp := (orders_mem _ _).mp ho
      have hl := hp.length_eq
      rw [rgn_len] at hl
      have lb := lbreaks_ok base (k := j) (by omega) (perm_in hp) (by omega)
      rw [hC] at lb
      exact order_turn (by omega) hp hc lb _ _ x4 x5 x6
    · rintro e ⟨hc, x4, x5, rfl⟩
      have ht : (ordersOf (rgn (i + 1))).foldl tly (List.replicate 31 0) = rowsC (i + 1) := tally_eq i hi'
      rw [ht]
      simp [-List.map_map, -List.any_map, -List.all_map, s31]
      refine for_h (fun c e => ∃ x6, ownD x6 = none ∧ e = [.val (iL ns), .val (.int ((i + 1 : Nat) : Int)), .val (iT (rgn (i + 1))), .own (iL (rowsC (i + 1))), x4, x5, x6, .no, .no, .no, .no, .no, .no]) ⟨_, h6, rfl⟩ ?_ ?_
      · rintro c hcc e ⟨x6, h6, rfl⟩
        have hcc' : c < 31 := by simpa [rngL] using hcc
        rw [rngL_at hcc]
        have cbr := countbreaks_ok base (k := j) (by omega) (i + 1) c (by omega) (by omega) (by omega)
        have le := leq_i base (k := j) (by omega) (cb (i + 1) c)
        rw [hC] at cbr le
        have ra := rowsC_at (s := i + 1) hcc'
        rw [Int.zero_add]
        simp [turnS, b_law_L2, -List.map_map, -List.any_map, -List.all_map, wC_eq cbr, ra, wC_eq le, -List.getElem?_map, -Int.natCast_add]
        exact .i ⟨_, rfl, rfl⟩
      · rintro e ⟨x6, h6, rfl⟩
        simp [-List.map_map, -List.any_map, -List.all_map]
        exact .i ⟨_, _, _, _, _, _, h6, rfl⟩
  · rintro e ⟨x1, x2, x3, x4, x5, x6, h6, rfl⟩
    simp [-List.map_map, -List.any_map, -List.all_map, lg, lg']
    refine for_cells (fun e => ∃ x1 x2 x3 x4 x5 x7 x8 x9 x10 x11 x12, e = [.val (iL ns), x1, x2, x3, x4, x5, x6, x7, x8, x9, x10, x11, x12]) (cells_int' ns 4) ⟨_, _, _, _, _, _, _, _, _, _, _, rfl⟩ (fun c e he => ?_) ?_
    · obtain ⟨x1, x2, x3, x4, x5, x7, x8, x9, x10, x11, x12, rfl⟩ := he
      simp [turnS, b_law_L5, -List.map_map, -List.any_map, -List.all_map]
      subst hC
      refine wC_of (base.src j c 29 (by omega) (by omega) (by omega)) fun d s ⟨⟨xs, e⟩, hs⟩ => ?_
      subst e
      simp [-List.map_map, -List.any_map, -List.all_map]
      refine wC_of (draw_wp base (show 1 ≤ j by omega) hs (by omega) (by omega) (by omega)) fun d s1 ⟨dd, e, hdd, hs1⟩ => ?_
      subst e
      simp [-List.map_map, -List.any_map, -List.all_map]
      refine wC_of (draw_wp base (show 1 ≤ j by omega) hs1 (by omega) (by omega) (by omega)) fun d s2 ⟨n, e, hn, hs2⟩ => ?_
      subst e
      have hdd : dd < 12 := by omega
      have hn : n < 31 := by omega
      have e1 : (1 : Int) + (dd : Int) = ((dd + 1 : Nat) : Int) := by omega
      obtain ⟨q1, q2, q3⟩ := sums_ok dd hdd
      have q4 := lists_ok dd hdd n hn
      simp [-List.map_map, -List.any_map, -List.all_map, e1, s31, rngL, h6, -Int.natCast_add]
      refine lc_wp (fun a : Nat => .int (cb (dd + 1) a)) (fun a ha => ?_) ?_
      · have ha := List.mem_range.mp ha
        have cbr := countbreaks_ok base (k := j) (by omega) (dd + 1) a (by omega) (by omega) (by omega)
        simp [-List.map_map, -List.any_map, -List.all_map, wC_eq cbr, -Int.natCast_add]
      · have e2 : ((List.range 31).map fun a : Nat => PyData.int (cb (dd + 1) a)) = (rowsC (dd + 1)).map PyData.int := by unfold rowsC; rw [List.map_map]; rfl
        have sd : smallI ((dd + 1 : Nat) : Int) = true := decide_eq_true (show _ ∧ _ by omega)
        have e3 : ((dd + 1 : Nat) : Int).toNat = dd + 1 := by omega
        rw [e2]
        simp [-List.map_map, -List.any_map, -List.all_map, sd, e3, rngL, -Int.natCast_add]
        refine for_pre (fun pre e => ∃ x12, e = [.val (iL ns), .val (.int ((dd + 1 : Nat) : Int)), x2, x3, x4, x5, x6, .val (.int c), .own s2, .val (.int n), .own (iL (rowsC (dd + 1))), .val (.int (fact pre.length : Nat)), x12]) ⟨_, rfl⟩ ?_ ?_
        · rintro pre a post hpre e ⟨x12, rfl⟩
          have hl : pre.length < dd + 1 := by have := congrArg List.length hpre; simp at this; omega
          have ha : a = pre.length := by
            have h1 : (List.range (dd + 1))[pre.length]? = some a := by rw [hpre]; simp
            rw [List.getElem?_range hl] at h1
            exact (Option.some.inj h1).symm
          subst ha
          have mo : mulOk ((fact pre.length : Nat) : Int) ((pre.length + 1 : Nat) : Int) = true := mul_small (by omega)
          have e4 : (pre.length : Int) + 1 = ((pre.length + 1 : Nat) : Int) := by omega
          have e5 : ((fact pre.length : Nat) : Int) * ((pre.length + 1 : Nat) : Int) = ((fact (pre.length + 1) : Nat) : Int) := by
            rw [← Int.natCast_mul, Nat.mul_comm]; rfl
          simp [turnS, b_law_L4, -List.map_map, -List.any_map, -List.all_map, e4, mo, e5, -Int.natCast_add]
          exact .i ⟨_, by rw [List.length_append, List.length_singleton]⟩
        · rintro e ⟨x12, rfl⟩
          have e6 : (List.range (dd + 1)).length = dd + 1 := List.length_range
          rw [e6, ← q1]
          have t1 : List.take (dd + 1) ((rowsC (dd + 1)).map PyData.int) = ((rowsC (dd + 1)).take (dd + 1)).map PyData.int := List.map_take.symm
          have t2 : List.drop (dd + 1) ((rowsC (dd + 1)).map PyData.int) = ((rowsC (dd + 1)).drop (dd + 1)).map PyData.int := List.map_drop.symm
          have t3 : (((rowsC (dd + 1)).take (dd + 1)).map PyData.int).reverse = ((rowsC (dd + 1)).take (dd + 1)).map PyData.int := by rw [← List.map_reverse, ← q2]
          have c1 := ne_l ((rowsC (dd + 1)).take (dd + 1)) ((rowsC (dd + 1)).take (dd + 1))
          rw [decide_eq_true rfl] at c1
          have cl := countlists_ok base (k := j) (by omega) (dd + 1) n (by omega) (by omega) (by omega)
          rw [show dd + 1 - 1 = dd by omega, q4] at cl
          have m6 : (if (6 : Int) < (n : Int) then (6 : Int) else (n : Int)) = ((min n 6 : Nat) : Int) := by
            by_cases h6 : 6 < n
            · rw [if_pos (by omega)]; omega
            · rw [if_neg (by omega)]; omega
          have two := ltwo_ok base (k := j) (by omega) (min n 6) (by omega)
          have e7 : (2 : Int) ^ (min n 6) = ((2 ^ min n 6 : Nat) : Int) := by simp
          rw [e7] at two
          have m31 : (if ((2 ^ min n 6 : Nat) : Int) < 31 then ((2 ^ min n 6 : Nat) : Int) else (31 : Int)) = ((min 31 (2 ^ min n 6) : Nat) : Int) := by
            by_cases h6 : 2 ^ min n 6 < 31
            · rw [if_pos (by omega)]; omega
            · rw [if_neg (by omega)]; omega
          have e8 : ((min 31 (2 ^ min n 6) : Nat) : Int).toNat = min 31 (2 ^ min n 6) := Int.toNat_natCast _
          have t4 : List.take (min 31 (2 ^ min n 6)) ((rowsC (dd + 1)).map PyData.int) = ((rowsC (dd + 1)).take (min 31 (2 ^ min n 6))).map PyData.int := List.map_take.symm
          simp [-List.map_map, -List.any_map, -List.all_map, e3, t1, t2, t3, c1, q3, wC_eq cl, m6, wC_eq two, m31, e8, t4, -Int.natCast_add, -Int.natCast_pow, -List.map_take, -List.map_drop]
          exact .i ⟨_, _, _, _, _, _, _, _, _, _, _, rfl⟩
    · rintro e ⟨x1, x2, x3, x4, x5, x7, x8, x9, x10, x11, x12, rfl⟩
      subst hC
      have c1 := countbreaks_ok base (k := j) (by omega) 5 2 (by omega) (by omega) (by omega)
      have c2 := countbreaks_ok base (k := j) (by omega) 12 11 (by omega) (by omega) (by omega)
      rw [cb5] at c1
      rw [cb12] at c2
      have c1 : callk tab j "count_breaks" [.int 5, .int 2] .none = .ok (.int 66) .none := c1
      have c2 : callk tab j "count_breaks" [.int 12, .int 11] .none = .ok (.int 1) .none := c2
      simp [-List.map_map, -List.any_map, -List.all_map, wC_eq c1, wC_eq c2]
theorem law_true (ns : List Int) (h : ns.length ≤ 63) : callk tab 30 "law" [.list (ns.map PyData.int)] .none = .ok (.bool true) .none := law_k 30 rfl ns h
end BT.Gk29
namespace BT.Gk29
open PySem PySem.Spec PyProof.Rows L2 BT
theorem c_is_between : cS 12 24 false (ccOf N_is_between (top 7) fsL ksL) (defBody (top 7)) = some BT.f_is_between.body := by kernel_rfl
theorem s_is_between : FnScope N_is_between ["value", "low", "high"] (defScope (top 7)) := ⟨rfl, rfl, rfl, by decide +kernel, rfl, by decide +kernel, by decide +kernel⟩
theorem c_check_number : cS 12 24 false (ccOf N_check_number (top 8) fsL ksL) (defBody (top 8)) = some BT.f_check_number.body := by kernel_rfl
theorem s_check_number : FnScope N_check_number ["number"] (defScope (top 8)) := ⟨rfl, rfl, rfl, by decide +kernel, rfl, by decide +kernel, by decide +kernel⟩
theorem c_power : cS 12 24 false (ccOf N_power (top 9) fsL ksL) (defBody (top 9)) = some BT.f_power.body := by kernel_rfl
theorem s_power : FnScope N_power ["number"] (defScope (top 9)) := ⟨rfl, rfl, rfl, by decide +kernel, rfl, by decide +kernel, by decide +kernel⟩
theorem c_check_size : cS 12 24 false (ccOf N_check_size (top 11) fsL ksL) (defBody (top 11)) = some BT.f_check_size.body := by kernel_rfl
theorem s_check_size : FnScope N_check_size ["size"] (defScope (top 11)) := ⟨rfl, rfl, rfl, by decide +kernel, rfl, by decide +kernel, by decide +kernel⟩
theorem c_count_lists : cS 12 24 false (ccOf N_count_lists (top 12) fsL ksL) (defBody (top 12)) = some BT.f_count_lists.body := by kernel_rfl
theorem s_count_lists : FnScope N_count_lists ["size", "number"] (defScope (top 12)) := ⟨rfl, rfl, rfl, by decide +kernel, rfl, by decide +kernel, by decide +kernel⟩
theorem c_break_counts : cS 12 24 false (ccOf N_break_counts (top 14) fsL ksL) (defBody (top 14)) = some BT.f_break_counts.body := by kernel_rfl
theorem s_break_counts : FnScope N_break_counts ["size"] (defScope (top 14)) := ⟨rfl, rfl, rfl, by decide +kernel, rfl, by decide +kernel, by decide +kernel⟩
theorem c_count_breaks : cS 12 24 false (ccOf N_count_breaks (top 15) fsL ksL) (defBody (top 15)) = some BT.f_count_breaks.body := by kernel_rfl
theorem s_count_breaks : FnScope N_count_breaks ["size", "count"] (defScope (top 15)) := ⟨rfl, rfl, rfl, by decide +kernel, rfl, by decide +kernel, by decide +kernel⟩
theorem c_law_source : cS 12 24 true (ccOf N_law_source (top 17) fsL ksL) (defBody (top 17)) = some f_law_source.body := by kernel_rfl
theorem s_law_source : FnScope N_law_source ["cell", "turn"] (defScope (top 17)) := ⟨rfl, rfl, rfl, by decide +kernel, rfl, by decide +kernel, by decide +kernel⟩
theorem c_law_draw : cS 12 24 false (ccOf N_law_draw (top 18) fsL ksL) (defBody (top 18)) = some f_law_draw.body := by kernel_rfl
theorem s_law_draw : FnScope N_law_draw ["source", "size"] (defScope (top 18)) := ⟨rfl, rfl, rfl, by decide +kernel, rfl, by decide +kernel, by decide +kernel⟩
theorem c_law_kind : cS 12 24 false (ccOf N_law_kind (top 19) fsL ksL) (defBody (top 19)) = some BT.f_law_kind.body := by kernel_rfl
theorem s_law_kind : FnScope N_law_kind ["value"] (defScope (top 19)) := ⟨rfl, rfl, rfl, by decide +kernel, rfl, by decide +kernel, by decide +kernel⟩
theorem c_law_equal : cS 12 24 false (ccOf N_law_equal (top 20) fsL ksL) (defBody (top 20)) = some BT.f_law_equal.body := by kernel_rfl
theorem s_law_equal : FnScope N_law_equal ["value", "expected"] (defScope (top 20)) := ⟨rfl, rfl, rfl, by decide +kernel, rfl, by decide +kernel, by decide +kernel⟩
theorem c_law_breaks : cS 12 24 false (ccOf N_law_breaks (top 21) fsL ksL) (defBody (top 21)) = some BT.f_law_breaks.body := by kernel_rfl
theorem s_law_breaks : FnScope N_law_breaks ["values", "target"] (defScope (top 21)) := ⟨rfl, rfl, rfl, by decide +kernel, rfl, by decide +kernel, by decide +kernel⟩
theorem c_law_two_to : cS 12 24 false (ccOf N_law_two_to (top 22) fsL ksL) (defBody (top 22)) = some BT.f_law_two_to.body := by kernel_rfl
theorem s_law_two_to : FnScope N_law_two_to ["number"] (defScope (top 22)) := ⟨rfl, rfl, rfl, by decide +kernel, rfl, by decide +kernel, by decide +kernel⟩
theorem c_law_orders : cS 12 24 false (ccOf N_law_orders (top 23) fsL ksL) (defBody (top 23)) = some BT.f_law_orders.body := by kernel_rfl
theorem s_law_orders : FnScope N_law_orders ["values"] (defScope (top 23)) := ⟨rfl, rfl, rfl, by decide +kernel, rfl, by decide +kernel, by decide +kernel⟩
theorem c_law : cS 12 24 false (ccOf N_law (top 24) fsL ksL) (defBody (top 24)) = some f_law.body := by kernel_rfl
theorem s_law : FnScope N_law ["script"] (defScope (top 24)) := ⟨rfl, rfl, rfl, by decide +kernel, rfl, by decide +kernel, by decide +kernel⟩
def d_is_between : He.DefD := ⟨("is_between", none), "is_between", "is_between", defArgs (top 7), defBody (top 7), defScope (top 7), [], []⟩
def d_check_number : He.DefD := ⟨("check_number", none), "check_number", "check_number", defArgs (top 8), defBody (top 8), defScope (top 8), [], []⟩
def d_power : He.DefD := ⟨("power", none), "power", "power", defArgs (top 9), defBody (top 9), defScope (top 9), [], []⟩
def d_check_size : He.DefD := ⟨("check_size", none), "check_size", "check_size", defArgs (top 11), defBody (top 11), defScope (top 11), [], []⟩
def d_count_lists : He.DefD := ⟨("count_lists", none), "count_lists", "count_lists", defArgs (top 12), defBody (top 12), defScope (top 12), [], []⟩
def d_break_counts : He.DefD := ⟨("break_counts", none), "break_counts", "break_counts", defArgs (top 14), defBody (top 14), defScope (top 14), [], []⟩
def d_count_breaks : He.DefD := ⟨("count_breaks", none), "count_breaks", "count_breaks", defArgs (top 15), defBody (top 15), defScope (top 15), [], []⟩
def d_law_source : He.DefD := ⟨("_law_source", none), "_law_source", "_law_source", defArgs (top 17), defBody (top 17), defScope (top 17), [], []⟩
def d_law_draw : He.DefD := ⟨("_law_draw", none), "_law_draw", "_law_draw", defArgs (top 18), defBody (top 18), defScope (top 18), [], []⟩
def d_law_kind : He.DefD := ⟨("_law_kind", none), "_law_kind", "_law_kind", defArgs (top 19), defBody (top 19), defScope (top 19), [], []⟩
def d_law_equal : He.DefD := ⟨("_law_equal", none), "_law_equal", "_law_equal", defArgs (top 20), defBody (top 20), defScope (top 20), [], []⟩
def d_law_breaks : He.DefD := ⟨("_law_breaks", none), "_law_breaks", "_law_breaks", defArgs (top 21), defBody (top 21), defScope (top 21), [], []⟩
def d_law_two_to : He.DefD := ⟨("_law_two_to", none), "_law_two_to", "_law_two_to", defArgs (top 22), defBody (top 22), defScope (top 22), [], []⟩
def d_law_orders : He.DefD := ⟨("_law_orders", none), "_law_orders", "_law_orders", defArgs (top 23), defBody (top 23), defScope (top 23), [], []⟩
def d_law : He.DefD := ⟨("law", none), "law", "law", defArgs (top 24), defBody (top 24), defScope (top 24), [], []⟩
def fn : List He.DefD := [d_is_between, d_check_number, d_power, d_check_size, d_count_lists, d_break_counts, d_count_breaks, d_law_source, d_law_draw, d_law_kind, d_law_equal, d_law_breaks, d_law_two_to, d_law_orders, d_law]
def fa : List He.Fa := [.glo "is_between", .glo "check_number", .glo "power", .glo "check_size", .glo "count_lists", .glo "break_counts", .glo "count_breaks", .glo "_law_source", .glo "_law_draw", .glo "_law_kind", .glo "_law_equal", .glo "_law_breaks", .glo "_law_two_to", .glo "_law_orders", .glo "law", .free "len", .free "abs", .free "sum", .free "all", .free "any", .free "min", .free "max", .free "sorted", .free "list", .free "tuple", .free "int", .free "bool", .free "str", .free "isinstance", .free "range", .free "enumerate", .free "zip", .free "set", .free "dict", .int "MAX_ITEMS" (12), .int "MAX_MOVES" (30)]
abbrev R : PySem.W.OpenRow := PySem.W.OpenLaw.row PySem.Challenge.rw_batchtop_k29_lists_with_so_many_breaks
abbrev hk : PySem.W.Hook := He.hookD 4 fa fn
def ob (s : PySem.W.SharedT) : He.AlD := He.obsDG 4 fa fn (HandSHeadRun.getT s)
theorem ob_eq (s : PySem.W.SharedT) : ob s = hk.obs s.abs := He.obsDG_eq (HandSHeadRun.getT_eq s)
def loose : List Str := (["BatchError", "InvalidNumber", "InvalidSize", "MAX_ITEMS", "MAX_MOVES", "is_between", "check_number", "power", "check_size", "count_lists", "break_counts", "count_breaks", "_law_source", "_law_draw", "_law_kind", "_law_equal", "_law_breaks", "_law_two_to", "_law_orders"] : List Str)
theorem run (w : World) : HandSHeadRun.RunEq R (PySem.W.view R.prog [24]) hk ob 4000 loose w := by
  intro os
  kernel_rfl
theorem world {K : PySem.W.Frag} {h : Heap} {mg : Str → Option Value} (X : K.In h) (G : h.Ns mainGlobals mg) (c : He.SaysD fa fn K) : Wd K mg tab fsL ksL where
  bt := all_c (He.free_ok X G (c.fact 15 (f := .free "len") rfl)) (all_c (He.free_ok X G (c.fact 16 (f := .free "abs") rfl)) (all_c (He.free_ok X G (c.fact 17 (f := .free "sum") rfl)) (all_c (He.free_ok X G (c.fact 18 (f := .free "all") rfl)) (all_c (He.free_ok X G (c.fact 19 (f := .free "any") rfl)) (all_c (He.free_ok X G (c.fact 20 (f := .free "min") rfl)) (all_c (He.free_ok X G (c.fact 21 (f := .free "max") rfl)) (all_c (He.free_ok X G (c.fact 22 (f := .free "sorted") rfl)) (all_c (He.free_ok X G (c.fact 23 (f := .free "list") rfl)) (all_c (He.free_ok X G (c.fact 24 (f := .free "tuple") rfl)) (all_c (He.free_ok X G (c.fact 25 (f := .free "int") rfl)) (all_c (He.free_ok X G (c.fact 26 (f := .free "bool") rfl)) (all_c (He.free_ok X G (c.fact 27 (f := .free "str") rfl)) (all_c (He.free_ok X G (c.fact 28 (f := .free "isinstance") rfl)) (all_c (He.free_ok X G (c.fact 29 (f := .free "range") rfl)) (all_c (He.free_ok X G (c.fact 30 (f := .free "enumerate") rfl)) (all_c (He.free_ok X G (c.fact 31 (f := .free "zip") rfl)) (all_c (He.free_ok X G (c.fact 32 (f := .free "set") rfl)) (all_c (He.free_ok X G (c.fact 33 (f := .free "dict") rfl)) (all_n)))))))))))))))))))
  kk := kk_of (all_c (k_int (He.int_ok X G (c.fact 34 (f := .int "MAX_ITEMS" (12)) rfl))) (all_c (k_int (He.int_ok X G (c.fact 35 (f := .int "MAX_MOVES" (30)) rfl))) (all_n)))
  ff := all_c ⟨by obtain ⟨fd, F⟩ := c.def_ 0 (d := d_is_between) rfl; exact ⟨_, fd, top 7, _, N_is_between, ["value", "low", "high"], BT.f_is_between, F, He.glo_ok X G (c.fact 0 (f := .glo "is_between") rfl), F.bindsN (fun _ _ _ _ _ _ us hl => match us, hl with | [_, _, _], _ => rfl), s_is_between, t_is_between, rfl, rfl, rfl, rfl, rfl, by decide, c_is_between⟩⟩ (
    all_c ⟨by obtain ⟨fd, F⟩ := c.def_ 1 (d := d_check_number) rfl; exact ⟨_, fd, top 8, _, N_check_number, ["number"], BT.f_check_number, F, He.glo_ok X G (c.fact 1 (f := .glo "check_number") rfl), F.bindsN (fun _ _ _ _ _ _ us hl => match us, hl with | [_], _ => rfl), s_check_number, t_check_number, rfl, rfl, rfl, rfl, rfl, by decide, c_check_number⟩⟩ (
    all_c ⟨by obtain ⟨fd, F⟩ := c.def_ 2 (d := d_power) rfl; exact ⟨_, fd, top 9, _, N_power, ["number"], BT.f_power, F, He.glo_ok X G (c.fact 2 (f := .glo "power") rfl), F.bindsN (fun _ _ _ _ _ _ us hl => match us, hl with | [_], _ => rfl), s_power, t_power, rfl, rfl, rfl, rfl, rfl, by decide, c_power⟩⟩ (
    all_c ⟨by obtain ⟨fd, F⟩ := c.def_ 3 (d := d_check_size) rfl; exact ⟨_, fd, top 11, _, N_check_size, ["size"], BT.f_check_size, F, He.glo_ok X G (c.fact 3 (f := .glo "check_size") rfl), F.bindsN (fun _ _ _ _ _ _ us hl => match us, hl with | [_], _ => rfl), s_check_size, t_check_size, rfl, rfl, rfl, rfl, rfl, by decide, c_check_size⟩⟩ (
    all_c ⟨by obtain ⟨fd, F⟩ := c.def_ 4 (d := d_count_lists) rfl; exact ⟨_, fd, top 12, _, N_count_lists, ["size", "number"], BT.f_count_lists, F, He.glo_ok X G (c.fact 4 (f := .glo "count_lists") rfl), F.bindsN (fun _ _ _ _ _ _ us hl => match us, hl with | [_, _], _ => rfl), s_count_lists, t_count_lists, rfl, rfl, rfl, rfl, rfl, by decide, c_count_lists⟩⟩ (
    all_c ⟨by obtain ⟨fd, F⟩ := c.def_ 5 (d := d_break_counts) rfl; exact ⟨_, fd, top 14, _, N_break_counts, ["size"], BT.f_break_counts, F, He.glo_ok X G (c.fact 5 (f := .glo "break_counts") rfl), F.bindsN (fun _ _ _ _ _ _ us hl => match us, hl with | [_], _ => rfl), s_break_counts, t_break_counts, rfl, rfl, rfl, rfl, rfl, by decide, c_break_counts⟩⟩ (
    all_c ⟨by obtain ⟨fd, F⟩ := c.def_ 6 (d := d_count_breaks) rfl; exact ⟨_, fd, top 15, _, N_count_breaks, ["size", "count"], BT.f_count_breaks, F, He.glo_ok X G (c.fact 6 (f := .glo "count_breaks") rfl), F.bindsN (fun _ _ _ _ _ _ us hl => match us, hl with | [_, _], _ => rfl), s_count_breaks, t_count_breaks, rfl, rfl, rfl, rfl, rfl, by decide, c_count_breaks⟩⟩ (
    all_c ⟨by obtain ⟨fd, F⟩ := c.def_ 7 (d := d_law_source) rfl; exact ⟨_, fd, top 17, _, N_law_source, ["cell", "turn"], f_law_source, F, He.glo_ok X G (c.fact 7 (f := .glo "_law_source") rfl), F.bindsN (fun _ _ _ _ _ _ us hl => match us, hl with | [_, _], _ => rfl), s_law_source, t_law_source, rfl, rfl, rfl, rfl, rfl, by decide, c_law_source⟩⟩ (
    all_c ⟨by obtain ⟨fd, F⟩ := c.def_ 8 (d := d_law_draw) rfl; exact ⟨_, fd, top 18, _, N_law_draw, ["source", "size"], f_law_draw, F, He.glo_ok X G (c.fact 8 (f := .glo "_law_draw") rfl), F.bindsN (fun _ _ _ _ _ _ us hl => match us, hl with | [_, _], _ => rfl), s_law_draw, t_law_draw, rfl, rfl, rfl, rfl, rfl, by decide, c_law_draw⟩⟩ (
    all_c ⟨by obtain ⟨fd, F⟩ := c.def_ 9 (d := d_law_kind) rfl; exact ⟨_, fd, top 19, _, N_law_kind, ["value"], BT.f_law_kind, F, He.glo_ok X G (c.fact 9 (f := .glo "_law_kind") rfl), F.bindsN (fun _ _ _ _ _ _ us hl => match us, hl with | [_], _ => rfl), s_law_kind, t_law_kind, rfl, rfl, rfl, rfl, rfl, by decide, c_law_kind⟩⟩ (
    all_c ⟨by obtain ⟨fd, F⟩ := c.def_ 10 (d := d_law_equal) rfl; exact ⟨_, fd, top 20, _, N_law_equal, ["value", "expected"], BT.f_law_equal, F, He.glo_ok X G (c.fact 10 (f := .glo "_law_equal") rfl), F.bindsN (fun _ _ _ _ _ _ us hl => match us, hl with | [_, _], _ => rfl), s_law_equal, t_law_equal, rfl, rfl, rfl, rfl, rfl, by decide, c_law_equal⟩⟩ (
    all_c ⟨by obtain ⟨fd, F⟩ := c.def_ 11 (d := d_law_breaks) rfl; exact ⟨_, fd, top 21, _, N_law_breaks, ["values", "target"], BT.f_law_breaks, F, He.glo_ok X G (c.fact 11 (f := .glo "_law_breaks") rfl), F.bindsN (fun _ _ _ _ _ _ us hl => match us, hl with | [_, _], _ => rfl), s_law_breaks, t_law_breaks, rfl, rfl, rfl, rfl, rfl, by decide, c_law_breaks⟩⟩ (
    all_c ⟨by obtain ⟨fd, F⟩ := c.def_ 12 (d := d_law_two_to) rfl; exact ⟨_, fd, top 22, _, N_law_two_to, ["number"], BT.f_law_two_to, F, He.glo_ok X G (c.fact 12 (f := .glo "_law_two_to") rfl), F.bindsN (fun _ _ _ _ _ _ us hl => match us, hl with | [_], _ => rfl), s_law_two_to, t_law_two_to, rfl, rfl, rfl, rfl, rfl, by decide, c_law_two_to⟩⟩ (
    all_c ⟨by obtain ⟨fd, F⟩ := c.def_ 13 (d := d_law_orders) rfl; exact ⟨_, fd, top 23, _, N_law_orders, ["values"], BT.f_law_orders, F, He.glo_ok X G (c.fact 13 (f := .glo "_law_orders") rfl), F.bindsN (fun _ _ _ _ _ _ us hl => match us, hl with | [_], _ => rfl), s_law_orders, t_law_orders, rfl, rfl, rfl, rfl, rfl, by decide, c_law_orders⟩⟩ (
    all_c ⟨by obtain ⟨fd, F⟩ := c.def_ 14 (d := d_law) rfl; exact ⟨_, fd, top 24, _, N_law, ["script"], f_law, F, He.glo_ok X G (c.fact 14 (f := .glo "law") rfl), F.bindsN (fun _ _ _ _ _ _ us hl => match us, hl with | [_], _ => rfl), s_law, t_law, rfl, rfl, rfl, rfl, rfl, by decide, c_law⟩⟩ (
    all_n)))))))))))))))
def depth : Nat := 30
theorem facts {P : Program} {w : World} {K : PySem.W.Frag} {h : Heap} {mg : Str → Option Value} {f : Addr} (X : K.In h) (G : h.Ns mainGlobals mg) (hfa : mg ("law" : Str) = some (.ref f)) (c : He.SaysD fa fn K) :
    ∃ fd : FuncData, (∀ (s : Shared) (v : Value), BindsTo s fd ⟨[v], []⟩ [("script", v)]) ∧ ∀ base : Heap, K.In base → base.Ns mainGlobals mg → FnOk P w K mg base L2.CX0 depth f fd ["script"] (sp0 K false false 1 (callk tab depth "law")) := by
  obtain ⟨fd, F⟩ := c.def_ 14 (d := d_law) rfl
  have g := He.glo_ok X G (c.fact 14 (f := .glo "law") rfl)
  have e := hfa.symm.trans g
  cases e
  have b := FunD.bindsA (ps := ["script"]) F fun _ _ _ _ _ _ us hl => match us, hl with | [_], _ => rfl
  exact ⟨fd, fun s v => b s [v] rfl, fun base _ _ => fn_step (world X G c) (all_fn (world X G c) (depth - 1)) F s_law (fn := f_law) t_law rfl rfl (by decide) c_law⟩
end BT.Gk29
open PySem PySem.W PySem.Calls PyProof.Rows
theorem PySem.Challenge.cw_batchtop_k29_lists_with_so_many_breaks_holds : PySem.Challenge.rw_batchtop_k29_lists_with_so_many_breaks.Holds := by
  w_on; o_law
  refine HandSHeadRun.head_any (r := OpenLaw.row PySem.Challenge.rw_batchtop_k29_lists_with_so_many_breaks) (q := view (OpenLaw.row PySem.Challenge.rw_batchtop_k29_lists_with_so_many_breaks).prog [24]) (H := BT.Gk29.hk) (ob := BT.Gk29.ob) (M := 4000) (loose := BT.Gk29.loose) (d := HandSHeadRun.topDef (OpenLaw.row PySem.Challenge.rw_batchtop_k29_lists_with_so_many_breaks).prog 24) (kwd := []) BT.Gk29.ob_eq
    (by kernel_rfl) (fun s => by kernel_rfl) BT.Gk29.run (by kernel_rfl) (by kernel_rfl) (by kernel_rfl) (by rfl) (by first | assumption | decide +kernel) (by decide +kernel) ⟨rfl, rfl, rfl, rfl, rfl, by decide +kernel⟩ ?hw ?hc
  case hw => w_witness2
  case hc =>
    refine L2.walk_ofE (l := PySem.Challenge.rw_batchtop_k29_lists_with_so_many_breaks) (n := 63) (k := BT.Gk29.depth) (x := "script") (CX := L2.CX0) rfl (by decide) (by kernel_rfl) ⟨rfl, by decide, by decide⟩ ?F (fun _ _ _ _ z => z)
    intro w mg fa h Y G hmg0
    obtain ⟨K, KX, c⟩ := Y
    have hmg : mg ("law" : PySem.Str) = some (.ref fa) := by
      have e : (HandSHeadRun.topDef (OpenLaw.row PySem.Challenge.rw_batchtop_k29_lists_with_so_many_breaks).prog 24).name = ("law" : PySem.Str) := by kernel_rfl
      rw [← e]
      exact hmg0
    obtain ⟨fd, hb, hF⟩ := BT.Gk29.facts (P := (PySem.Challenge.rw_batchtop_k29_lists_with_so_many_breaks).prog) (w := w) KX G hmg c
    exact ⟨K, fd, _, KX, hb, fun H a ns hl _ hS => BT.law_sp hS hl (BT.Gk29.law_true ns hl), hF⟩
