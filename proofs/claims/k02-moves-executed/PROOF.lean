import PyProof.Rows.All
import Wide.All
import OpenK.AllK
import Wide.FinOn
import HandS.ForMost
import HandS.Exc
import HandS.Strs
import HandS.Conv
import HandS.Zip
import HandS.Style
import HandS.SortInts
import HandS.IsInst
import HandS.TupAny
import HandS.TupMul
import HandS.Wide
import HandS.Walk
import HandS.SetFor
import PyProof.SeqIndex
import HandS.WordsExc
import KE.DataEq
import KE.DataCmp
import KE.DataMinMax
import KE.DatumIndex
import KE.GoesEnum
import KE.GoesMore
import KE.GoesZip
import HandS.HeadHook2
import HandS.HeadHook1
import HandS.HeadEnd
import HandS.Head2
import HandS.Head1
import HandS.Head0
import HandS.Defaults
import HandS.Words
import HandS.More
import KE.KStateDown
import PySem.Challenge.RW_batchtop_k02_moves_executed
set_option Elab.async false
set_option linter.all false
set_option maxRecDepth 100000
set_option maxHeartbeats 4000000
namespace BT
open PySem
/-! ## data, slots, results -/
abbrev D := PyData
/-- a place: empty; a value; an object that this place alone holds; the object handed in to be changed -/
inductive Slot where
  | no
  | val (d : D)
  | own (d : D)
  | inp (d : D)
/-- the object that a place holds -/
def ownD : Slot → Option D
  | .own d => some d
  | .inp d => some d
  | _ => none
/-- .. changed -/
def reOwn : Slot → D → Slot
  | .inp _, d => .inp d
  | _, d => .own d
abbrev Env := List Slot
inductive Res (α : Type) where
  | ok (a : α) (e : Env)
  | exc (c : String) (e : Env)
  | stuck
/-- a call's end: the value and what the first argument (where it is handed on to be changed) then is -/
inductive CR where
  | ok (d : D) (s : D)
  | exc (c : String) (s : D)
  | stuck
abbrev Calls := String → List D → D → CR

/-! ## the small language: places in the place of names -/
inductive Tg where
  | v (i : Nat)
  | p2 (a b : Tg)
  | p3 (a b c : Tg)
inductive Pr where
  | len | abs | sum | all | any | min | max | sorted | list | tuple | lenset | sortset | int
  deriving DecidableEq
inductive Ty where
  | bool | int | str | list | tuple
  deriving DecidableEq
mutual
inductive IE where
  | k (d : D)
  | v (i : Nat)
  | b (i : Nat)
  | bin (op : Operator) (a b : IE)
  | neg (a : IE)
  | not (a : IE)
  | and (a b : IE)
  | or (a b : IE)
  | cmp (op : CmpOp) (a b : IE)
  | cmp2 (op op' : CmpOp) (a b c : IE)
  | isN (a : IE)
  | notN (a : IE)
  | ite (t a b : IE)
  | call (f : String) (as : IEs)
  | callF (f : String) (as : IEs)
  | callS (f : String) (i : Nat) (as : IEs)
  | pr (p : Pr) (a : IE)
  | lrg (a : IE)
  | trg (a : IE)
  | lrg2 (a b : IE)
  | min2 (a b : IE)
  | max2 (a b : IE)
  | isi (a : IE) (ts : List Ty)
  | ix (a i : IE)
  | slu (a hi : IE)
  | sll (a lo : IE)
  | slb (a lo hi : IE)
  | rev (a : IE)
  | index (a x : IE)
  | lst (as : IEs)
  | tup (as : IEs)
  | lc (own : List Nat) (e : IE) (t : Tg) (it : It)
  | lcf (own : List Nat) (e : IE) (t : Tg) (it : It) (c : IE)
  | popI (i : Nat) (e : IE)
  | pop (i : Nat)
inductive IEs where
  | nil
  | cons (a : IE) (as : IEs)
inductive It where
  | e (a : IE)
  | r1 (a : IE)
  | r2 (a b : IE)
  | r3 (a b c : IE)
  | zip (a b : IE)
  | enum (a : IE)
end
mutual
inductive IS where
  | asg (i : Nat) (e : IE)
  | asgT (t : Tg) (e : IE)
  | asg2 (i j : Nat) (a b : IE)
  | asg3 (i j l : Nat) (a b c : IE)
  | setI (i : Nat) (x e : IE)
  | aug (i : Nat) (op : Operator) (e : IE)
  | app (i : Nat) (e : IE)
  | for_ (t : Tg) (it : It) (body : ISs)
  | while_ (t : IE) (body : ISs)
  | if_ (t : IE) (a b : ISs)
  | ret (e : IE)
  | retF (e : IE)
  | retO (i : Nat)
  | ex (e : IE)
  | raise (c : String)
  | pass
inductive ISs where
  | nil
  | cons (a : IS) (as : ISs)
end

/-! ## what the operations give -/
/-- the most items that a made list may have here -/
abbrev big : Nat := 1000000
def isLong (xs : List D) : Bool := decide (xs.length ≤ big)
def mulOk (i j : Int) : Bool := decide (i.natAbs < 18446744073709551616) || decide (j.natAbs < 18446744073709551616) || (decide (i.natAbs.log2 < 5000) && decide (j.natAbs.log2 < 5000))
def dvOk (j : Int) : Bool := decide (0 < j) && (decide (j < 1073741824) || decide (j.natAbs.log2 < 9000))
def dbin (op : Operator) (x y : D) : Option D :=
  match op with
  | .Add => match x, y with
    | .int i, .int j => some (.int (i + j))
    | .list a, .list b => if isLong (a ++ b) then some (.list (a ++ b)) else none
    | .tuple a, .tuple b => if isLong (a ++ b) then some (.tuple (a ++ b)) else none
    | _, _ => none
  | .Sub => match x, y with
    | .int i, .int j => some (.int (i - j))
    | _, _ => none
  | .Mult => match x, y with
    | .int i, .int j => if mulOk i j then some (.int (i * j)) else none
    | .list a, .int j => if decide (0 ≤ j ∧ j ≤ 1000 ∧ a.length ≤ 1000) then some (.list (List.replicate j.toNat a).flatten) else none
    | .tuple a, .int j => if decide (2 ≤ j ∧ j ≤ 1000 ∧ a.length ≤ 1000 ∧ a.length ≠ 0) then some (.tuple (List.replicate j.toNat a).flatten) else none
    | _, _ => none
  | .FloorDiv => match x, y with
    | .int i, .int j => if dvOk j then some (.int (i / j)) else none
    | _, _ => none
  | .Mod => match x, y with
    | .int i, .int j => if decide (0 < j) then some (.int (i % j)) else none
    | _, _ => none
  | .Pow => match x, y with
    | .int i, .int j => if decide (0 ≤ j ∧ j ≤ 1000000 ∧ i.natAbs < 18446744073709551616) then some (.int (i ^ j.toNat)) else none
    | _, _ => none
  | _ => none
def items? : D → Option (List D)
  | .list xs => some xs
  | .tuple xs => some xs
  | _ => none
def int? : D → Option Int
  | .int i => some i
  | _ => none
def bool? : D → Option Bool
  | .bool b => some b
  | _ => none
def ints? : List D → Option (List Int)
  | [] => some []
  | .int i :: xs => (ints? xs).map (i :: ·)
  | _ => none
def bools? : List D → Option (List Bool)
  | [] => some []
  | .bool b :: xs => (bools? xs).map (b :: ·)
  | _ => none
def okEq (d e : D) : Bool := d.plain && e.plain && decide (d.depth ≤ 20) && decide (e.depth ≤ 20)
def okIn (x : D) (xs : List D) : Bool := x.plain && PyData.plainAll xs && decide (x.depth ≤ 20) && decide (PyData.depthAll xs ≤ 20)
def dlt (x y : D) : Option Bool :=
  match x, y with
  | .int i, .int j => some (decide (i < j))
  | _, _ => none
def dcmp (op : CmpOp) (x y : D) : Option Bool :=
  match op with
  | .Eq => if okEq x y then some (PyData.eqv x y) else none
  | .NotEq => if okEq x y then some (!PyData.eqv x y) else none
  | .Lt => match x, y with | .int i, .int j => some (decide (i < j)) | _, _ => none
  | .LtE => match x, y with | .int i, .int j => some (decide (i ≤ j)) | _, _ => none
  | .Gt => match x, y with | .int i, .int j => some (decide (j < i)) | _, _ => none
  | .GtE => match x, y with | .int i, .int j => some (decide (j ≤ i)) | _, _ => none
  | .In => (items? y).bind fun ys => if okIn x ys then some (ys.any fun d => PyData.eqv d x) else none
  | .NotIn => (items? y).bind fun ys => if okIn x ys then some (!ys.any fun d => PyData.eqv d x) else none
  | _ => none
def isNone : D → Bool
  | .none => true
  | _ => false
def isTy (d : D) : Ty → Bool
  | .bool => match d with | .bool _ => true | _ => false
  | .int => match d with | .bool _ => true | .int _ => true | _ => false
  | .str => match d with | .str _ => true | _ => false
  | .list => match d with | .list _ => true | _ => false
  | .tuple => match d with | .tuple _ => true | _ => false
def rngL (lo : Int) (n : Nat) : List D := (List.range n).map fun i : Nat => .int (lo + (i : Int))
def rngC (lo c : Int) (n : Nat) : List D := (List.range n).map fun i : Nat => .int (lo + (i : Int) * c)
def smallI (i : Int) : Bool := decide (-1000000000 ≤ i ∧ i ≤ 1000000000)
def smallR (i : Int) : Bool := decide (-1000000 ≤ i ∧ i ≤ 1000000)
def sortI (ns : List Int) : List Int := ns.mergeSort fun a b => decide (a ≤ b)
/-- each int once -/
def dd : List Int → List Int
  | [] => []
  | x :: xs => if x ∈ xs then dd xs else x :: dd xs
def minI : List Int → Option Int
  | [] => none
  | x :: xs => some (xs.foldl (fun a b => if b < a then b else a) x)
def maxI : List Int → Option Int
  | [] => none
  | x :: xs => some (xs.foldl (fun a b => if b > a then b else a) x)
def dpr (p : Pr) (x : D) : Option D :=
  match p with
  | .len => match x with
    | .list xs => some (.int (xs.length : Nat))
    | .tuple xs => some (.int (xs.length : Nat))
    | .str z => if decide (z.length ≤ 1000) then some (.int (z.length : Nat)) else none
    | _ => none
  | .abs => match x with | .int i => some (.int (if i < 0 then -i else i)) | _ => none
  | .sum => match x with | .list xs => (ints? xs).map fun ns => .int ns.sum | _ => none
  | .all => match x with | .list xs => (bools? xs).map fun bs => .bool (bs.all id) | _ => none
  | .any => match x with | .list xs => (bools? xs).map fun bs => .bool (bs.any id) | _ => none
  | .min => match x with | .list xs => (ints? xs).bind fun ns => (minI ns).map PyData.int | _ => none
  | .max => match x with | .list xs => (ints? xs).bind fun ns => (maxI ns).map PyData.int | _ => none
  | .sorted => (items? x).bind fun xs => (ints? xs).map fun ns => .list ((sortI ns).map PyData.int)
  | .list => (items? x).map PyData.list
  | .tuple => (items? x).map PyData.tuple
  | .lenset => match x with
    | .tuple xs => if decide (xs.length ≤ 4000) then (ints? xs).map fun ns => .int ((dd ns).length : Nat) else none
    | _ => none
  | .sortset => match x with
    | .tuple xs => if decide (xs.length ≤ 60) then (ints? xs).map fun ns => .list ((sortI (dd ns)).map PyData.int) else none
    | _ => none
  | .int => match x with
    | .int i => some (.int i)
    | .bool b => some (.int (if b then 1 else 0))
    | _ => none
def atD (xs : List D) (i : Int) : Option D :=
  if 0 ≤ i then (if i < xs.length then xs[i.toNat]? else none) else if -(xs.length : Int) ≤ i then xs[(i + xs.length).toNat]? else none
def dix (x i : D) : Option D := (items? x).bind fun xs => (int? i).bind fun j => atD xs j
def sIx (n d : Nat) : Option Int → Nat
  | none => d
  | some i => if 0 ≤ i then min i.toNat n else (i + n).toNat
def cutD (xs : List D) (lo hi : Option Int) : List D := (xs.drop (sIx xs.length 0 lo)).take (sIx xs.length xs.length hi - sIx xs.length 0 lo)
def dsl (x : D) (lo hi : Option Int) : Option D :=
  match x with
  | .list xs => some (.list (cutD xs lo hi))
  | .tuple xs => some (.tuple (cutD xs lo hi))
  | _ => none
def drev (x : D) : Option D :=
  match x with
  | .list xs => some (.list xs.reverse)
  | .tuple xs => some (.tuple xs.reverse)
  | _ => none
def dindex (x y : D) : Option D := (items? x).bind fun xs => (ints? xs).bind fun ns => (int? y).bind fun k => if k ∈ ns then some (.int (ns.idxOf k : Nat)) else none

/-! ## slots -/
def slot (e : Env) (i : Nat) : Slot := e.getD i .no
def rd (e : Env) (i : Nat) : Option D :=
  match slot e i with
  | .val d => some d
  | .own d => some d
  | .inp d => some d
  | .no => none
def rr (a : IE) (x : D) (e : Env) : Option D :=
  match a with
  | .b i => rd e i
  | _ => some x
def ofO (o : Option D) (e : Env) : Res D :=
  match o with
  | some d => .ok d e
  | none => .stuck
def wipeE (e : Env) : List Nat → Env
  | [] => e
  | v :: vs => (wipeE e vs).set v .no
/-- the block's own places as they were ahead of it -/
def backE (e0 e : Env) : List Nat → Env
  | [] => e
  | v :: vs => (backE e0 e vs).set v (slot e0 v)
def bindT : Tg → D → Env → Option Env
  | .v i, x, e => some (e.set i (.val x))
  | .p2 a b, x, e => match x with
    | .tuple [y, z] => (bindT a y e).bind fun e1 => bindT b z e1
    | _ => none
  | .p3 a b c, x, e => match x with
    | .tuple [y, z, u] => (bindT a y e).bind fun e1 => (bindT b z e1).bind fun e2 => bindT c u e2
    | _ => none
def lcGo (f : Env → Res (Option D)) (t : Tg) (vs : List Nat) : List D → Env → Res (List D)
  | [], e => .ok [] e
  | x :: xs, e =>
    match bindT t x (wipeE e vs) with
    | none => .stuck
    | some e1 => match f e1 with
      | .ok r e2 => match lcGo f t vs xs e2 with
        | .ok ys e3 => .ok (match r with | some y => y :: ys | none => ys) e3
        | _ => .stuck
      | _ => .stuck
def lcEnd (vs : List Nat) (e0 : Env) (r : Res (List D)) : Res D :=
  match r with
  | .ok ys e => .ok (.list ys) (backE e0 e vs)
  | _ => .stuck
def noOwn (e : Env) (vs : List Nat) : Bool := vs.all fun v => (ownD (slot e v)).isNone

section
variable (C : Calls)
mutual
def ev : IE → Env → Res D
  | .k d, e => .ok d e
  | .v i, e => match slot e i with
    | .val d => .ok d e
    | .own d => .ok d (e.set i (.val d))
    | _ => .stuck
  | .b i, e => ofO (rd e i) e
  | .bin op a b, e => match ev a e with
    | .ok x e1 => match ev b e1 with
      | .ok y e2 => ofO ((rr a x e2).bind fun x' => dbin op x' y) e2
      | r => r
    | r => r
  | .neg a, e => match ev a e with
    | .ok x e1 => ofO ((int? x).map fun i => .int (-i)) e1
    | r => r
  | .not a, e => match ev a e with
    | .ok x e1 => ofO ((bool? x).map fun c => .bool (!c)) e1
    | r => r
  | .and a b, e => match ev a e with
    | .ok (.bool true) e1 => ev b e1
    | .ok (.bool false) e1 => .ok (.bool false) e1
    | .exc c e1 => .exc c e1
    | _ => .stuck
  | .or a b, e => match ev a e with
    | .ok (.bool false) e1 => ev b e1
    | .ok (.bool true) e1 => .ok (.bool true) e1
    | .exc c e1 => .exc c e1
    | _ => .stuck
  | .cmp op a b, e => match ev a e with
    | .ok x e1 => match ev b e1 with
      | .ok y e2 => ofO ((rr a x e2).bind fun x' => (dcmp op x' y).map PyData.bool) e2
      | r => r
    | r => r
  | .cmp2 op op' a b c, e => match ev a e with
    | .ok x e1 => match ev b e1 with
      | .ok y e2 => match dcmp op x y with
        | some true => match ev c e2 with
          | .ok z e3 => ofO ((dcmp op' y z).map PyData.bool) e3
          | r => r
        | some false => .ok (.bool false) e2
        | none => .stuck
      | r => r
    | r => r
  | .isN a, e => match ev a e with
    | .ok x e1 => .ok (.bool (isNone x)) e1
    | r => r
  | .notN a, e => match ev a e with
    | .ok x e1 => .ok (.bool (!isNone x)) e1
    | r => r
  | .ite t a b, e => match ev t e with
    | .ok (.bool true) e1 => ev a e1
    | .ok (.bool false) e1 => ev b e1
    | .exc c e1 => .exc c e1
    | _ => .stuck
  | .call f as, e => match evs as e with
    | .ok ds e1 => match C f ds .none with
      | .ok d _ => .ok d e1
      | .exc c _ => .exc c e1
      | .stuck => .stuck
    | .exc c e1 => .exc c e1
    | .stuck => .stuck
  | .callF f as, e => match evs as e with
    | .ok ds e1 => match C f ds .none with
      | .ok d _ => .ok d e1
      | .exc c _ => .exc c e1
      | .stuck => .stuck
    | .exc c e1 => .exc c e1
    | .stuck => .stuck
  | .callS f i as, e => if (ownD (slot e i)).isSome then (match evs as e with
    | .ok ds e1 => match ownD (slot e1 i) with
      | some s => match C f ds s with
        | .ok d s' => .ok d (e1.set i (reOwn (slot e1 i) s'))
        | .exc c s' => .exc c (e1.set i (reOwn (slot e1 i) s'))
        | .stuck => .stuck
      | none => .stuck
    | .exc c e1 => .exc c e1
    | .stuck => .stuck) else .stuck
  | .pr p a, e => match ev a e with
    | .ok x e1 => ofO (dpr p x) e1
    | r => r
  | .lrg a, e => match ev a e with
    | .ok x e1 => ofO ((int? x).bind fun n => if smallR n then some (.list (rngL 0 n.toNat)) else none) e1
    | r => r
  | .trg a, e => match ev a e with
    | .ok x e1 => ofO ((int? x).bind fun n => if smallR n then some (.tuple (rngL 0 n.toNat)) else none) e1
    | r => r
  | .lrg2 a b, e => match ev a e with
    | .ok x e1 => match ev b e1 with
      | .ok y e2 => ofO ((int? x).bind fun m => (int? y).bind fun n => if smallR m && smallR n then some (.list (rngL m (n - m).toNat)) else none) e2
      | r => r
    | r => r
  | .min2 a b, e => match ev a e with
    | .ok x e1 => match ev b e1 with
      | .ok y e2 => ofO ((int? x).bind fun i => (int? y).map fun j => .int (if j < i then j else i)) e2
      | r => r
    | r => r
  | .max2 a b, e => match ev a e with
    | .ok x e1 => match ev b e1 with
      | .ok y e2 => ofO ((int? x).bind fun i => (int? y).map fun j => .int (if j > i then j else i)) e2
      | r => r
    | r => r
  | .isi a ts, e => match ev a e with
    | .ok x e1 => .ok (.bool (ts.any (isTy x))) e1
    | r => r
  | .ix a b, e => match ev a e with
    | .ok x e1 => match ev b e1 with
      | .ok y e2 => ofO ((rr a x e2).bind fun x' => dix x' y) e2
      | r => r
    | r => r
  | .slu a b, e => match ev a e with
    | .ok x e1 => match ev b e1 with
      | .ok y e2 => ofO ((rr a x e2).bind fun x' => (int? y).bind fun j => dsl x' none (some j)) e2
      | r => r
    | r => r
  | .sll a b, e => match ev a e with
    | .ok x e1 => match ev b e1 with
      | .ok y e2 => ofO ((rr a x e2).bind fun x' => (int? y).bind fun j => dsl x' (some j) none) e2
      | r => r
    | r => r
  | .slb a b c, e => match ev a e with
    | .ok x e1 => match ev b e1 with
      | .ok y e2 => match int? y with
        | some j => match ev c e2 with
          | .ok z e3 => ofO ((rr a x e3).bind fun x' => (int? z).bind fun l => dsl x' (some j) (some l)) e3
          | r => r
        | none => .stuck
      | r => r
    | r => r
  | .rev a, e => match ev a e with
    | .ok x e1 => ofO (drev x) e1
    | r => r
  | .index a b, e => match ev a e with
    | .ok x e1 => if isTy x .tuple then (match ev b e1 with
      | .ok y e2 => ofO (dindex x y) e2
      | r => r) else .stuck
    | r => r
  | .lst as, e => match evs as e with
    | .ok ds e1 => .ok (.list ds) e1
    | .exc c e1 => .exc c e1
    | .stuck => .stuck
  | .tup as, e => match evs as e with
    | .ok ds e1 => .ok (.tuple ds) e1
    | .exc c e1 => .exc c e1
    | .stuck => .stuck
  | .lc vs x t it, e => match evIt it e with
    | .ok xs e1 => if noOwn e1 vs && isLong xs then lcEnd vs e1 (lcGo (fun e => match ev x e with | .ok y e' => .ok (some y) e' | _ => .stuck) t vs xs e1) else .stuck
    | .exc c e1 => .exc c e1
    | .stuck => .stuck
  | .lcf vs x t it c, e => match evIt it e with
    | .ok xs e1 => if noOwn e1 vs && isLong xs then lcEnd vs e1 (lcGo (fun e => match ev c e with
        | .ok (.bool true) e2 => match ev x e2 with | .ok y e' => .ok (some y) e' | _ => .stuck
        | .ok (.bool false) e2 => .ok none e2
        | _ => .stuck) t vs xs e1) else .stuck
    | .exc c e1 => .exc c e1
    | .stuck => .stuck
  | .popI i a, e => if (ownD (slot e i)).isSome then (match ev a e with
    | .ok x e1 => match ownD (slot e1 i), x with
      | some (.list xs), .int j => match atD xs j with
        | some y => if 0 ≤ j then .ok y (e1.set i (reOwn (slot e1 i) (.list (xs.eraseIdx j.toNat)))) else .stuck
        | none => .stuck
      | _, _ => .stuck
    | r => r) else .stuck
  | .pop i, e => match ownD (slot e i) with
    | some (.list xs) => match xs.getLast? with
      | some y => .ok y (e.set i (reOwn (slot e i) (.list xs.dropLast)))
      | none => .stuck
    | _ => .stuck
def evs : IEs → Env → Res (List D)
  | .nil, e => .ok [] e
  | .cons a as, e => match ev a e with
    | .ok d e1 => match evs as e1 with
      | .ok ds e2 => .ok (d :: ds) e2
      | r => r
    | .exc c e1 => .exc c e1
    | .stuck => .stuck
def evIt : It → Env → Res (List D)
  | .e a, e => match ev a e with
    | .ok x e1 => match items? x with
      | some xs => .ok xs e1
      | none => .stuck
    | .exc c e1 => .exc c e1
    | .stuck => .stuck
  | .r1 a, e => match ev a e with
    | .ok (.int n) e1 => if smallI n then .ok (rngL 0 n.toNat) e1 else .stuck
    | .exc c e1 => .exc c e1
    | _ => .stuck
  | .r2 a b, e => match ev a e with
    | .ok (.int m) e1 => match ev b e1 with
      | .ok (.int n) e2 => if smallI m && smallI n then .ok (rngL m (n - m).toNat) e2 else .stuck
      | .exc c e2 => .exc c e2
      | _ => .stuck
    | .exc c e1 => .exc c e1
    | _ => .stuck
  | .r3 a b c, e => match ev a e with
    | .ok (.int m) e1 => match ev b e1 with
      | .ok (.int n) e2 => match ev c e2 with
        | .ok (.int l) e3 => if smallI m && smallI n && decide (l = -1) then .ok (rngC m (-1) (m - n).toNat) e3 else .stuck
        | .exc c e3 => .exc c e3
        | _ => .stuck
      | .exc c e2 => .exc c e2
      | _ => .stuck
    | .exc c e1 => .exc c e1
    | _ => .stuck
  | .zip a b, e => match ev a e with
    | .ok x e1 => match ev b e1 with
      | .ok y e2 => match items? x, items? y with
        | some xs, some ys => .ok ((xs.zip ys).map fun p => .tuple [p.1, p.2]) e2
        | _, _ => .stuck
      | .exc c e2 => .exc c e2
      | .stuck => .stuck
    | .exc c e1 => .exc c e1
    | .stuck => .stuck
  | .enum a, e => match ev a e with
    | .ok x e1 => match items? x with
      | some xs => .ok (xs.zipIdx.map fun p => .tuple [.int (p.2 : Nat), p.1]) e1
      | none => .stuck
    | .exc c e1 => .exc c e1
    | .stuck => .stuck
end

/-! ## statements -/
def augI (op : Operator) (x : Int) (y : D) : Option D :=
  match op, y with
  | .Add, .int j => some (.int (x + j))
  | .Sub, .int j => some (.int (x - j))
  | .Mult, .int j => if mulOk x j then some (.int (x * j)) else none
  | _, _ => none
inductive Fl where
  | next
  | ret (own : Bool) (d : D)
def augL (i : Nat) (op : Operator) (y : D) (e1 : Env) : Res Fl :=
  match op, ownD (slot e1 i), items? y with
  | .Add, some (.list xs), some ys => if isLong (xs ++ ys) then .ok .next (e1.set i (reOwn (slot e1 i) (.list (xs ++ ys)))) else .stuck
  | _, _, _ => .stuck
/-- a made list goes into a place as the place's own -/
def freshE : IE → Bool
  | .lst _ => true
  | .lc .. => true
  | .lcf .. => true
  | .callF .. => true
  | .pr p _ => match p with | .list => true | .sorted => true | .sortset => true | _ => false
  | .lrg _ => true
  | .lrg2 .. => true
  | .bin op _ _ => match op with | .Add => true | .Mult => true | _ => false
  | .slu .. => true
  | .sll .. => true
  | .slb .. => true
  | .rev .. => true
  | _ => false
def mkSlot (f : Bool) (d : D) : Slot :=
  match f, d with
  | true, .list xs => .own (.list xs)
  | _, _ => .val d
def forGo (t : Tg) (body : Env → Res Fl) : List D → Env → Res Fl
  | [], e => .ok .next e
  | x :: xs, e =>
    match bindT t x e with
    | none => .stuck
    | some e1 => match body e1 with
      | .ok .next e2 => forGo t body xs e2
      | r => r
def whileGo (t : Env → Res D) (body : Env → Res Fl) : Nat → Env → Res Fl
  | 0, _ => .stuck
  | n + 1, e =>
    match t e with
    | .ok (.bool true) e1 => match body e1 with
      | .ok .next e2 => whileGo t body n e2
      | r => r
    | .ok (.bool false) e1 => .ok .next e1
    | .exc c e1 => .exc c e1
    | _ => .stuck
abbrev fuel : Nat := 1000000
mutual
def exec : IS → Env → Res Fl
  | .asg i a, e => match ev C a e with
    | .ok d e1 => .ok .next (e1.set i (mkSlot (freshE a) d))
    | .exc c e1 => .exc c e1
    | .stuck => .stuck
  | .asgT t a, e => match ev C a e with
    | .ok d e1 => match bindT t d e1 with
      | some e2 => .ok .next e2
      | none => .stuck
    | .exc c e1 => .exc c e1
    | .stuck => .stuck
  | .asg2 i j a b, e => match ev C a e with
    | .ok x e1 => match ev C b e1 with
      | .ok y e2 => .ok .next ((e2.set i (mkSlot (freshE a) x)).set j (mkSlot (freshE b) y))
      | .exc c e2 => .exc c e2
      | .stuck => .stuck
    | .exc c e1 => .exc c e1
    | .stuck => .stuck
  | .asg3 i j l a b c, e => match ev C a e with
    | .ok x e1 => match ev C b e1 with
      | .ok y e2 => match ev C c e2 with
        | .ok z e3 => .ok .next (((e3.set i (.val x)).set j (.val y)).set l (mkSlot (freshE c) z))
        | .exc c e3 => .exc c e3
        | .stuck => .stuck
      | .exc c e2 => .exc c e2
      | .stuck => .stuck
    | .exc c e1 => .exc c e1
    | .stuck => .stuck
  | .setI i x a, e => match ev C a e with
    | .ok d e1 => if (ownD (slot e1 i)).isSome then (match ev C x e1 with
      | .ok y e2 => match ownD (slot e2 i), y with
        | some (.list xs), .int j => match atD xs j with
          | some _ => .ok .next (e2.set i (reOwn (slot e2 i) (.list (xs.set (if 0 ≤ j then j.toNat else (j + xs.length).toNat) d))))
          | none => .stuck
        | _, _ => .stuck
      | .exc c e2 => .exc c e2
      | .stuck => .stuck) else .stuck
    | .exc c e1 => .exc c e1
    | .stuck => .stuck
  | .aug i op a, e => match slot e i with
    | .val (.int x) => match ev C a e with
      | .ok y e1 => match augI op x y with
        | some z => .ok .next (e1.set i (.val z))
        | none => .stuck
      | .exc c e1 => .exc c e1
      | .stuck => .stuck
    | .own (.list _) => match ev C a e with
      | .ok y e1 => augL i op y e1
      | .exc c e1 => .exc c e1
      | .stuck => .stuck
    | _ => .stuck
  | .app i a, e => if (ownD (slot e i)).isSome then (match ev C a e with
    | .ok y e1 => match ownD (slot e1 i) with
      | some (.list xs) => if decide (xs.length < big) then .ok .next (e1.set i (reOwn (slot e1 i) (.list (xs ++ [y])))) else .stuck
      | _ => .stuck
    | .exc c e1 => .exc c e1
    | .stuck => .stuck) else .stuck
  | .for_ t it body, e => match evIt C it e with
    | .ok xs e1 => forGo t (execs body) xs e1
    | .exc c e1 => .exc c e1
    | .stuck => .stuck
  | .while_ t body, e => whileGo (ev C t) (execs body) fuel e
  | .if_ t a b, e => match ev C t e with
    | .ok (.bool true) e1 => execs a e1
    | .ok (.bool false) e1 => execs b e1
    | .exc c e1 => .exc c e1
    | _ => .stuck
  | .ret a, e => match ev C a e with
    | .ok d e1 => .ok (.ret false d) e1
    | .exc c e1 => .exc c e1
    | .stuck => .stuck
  | .retF a, e => match ev C a e with
    | .ok d e1 => if freshE a && isTy d .list then .ok (.ret true d) e1 else .stuck
    | .exc c e1 => .exc c e1
    | .stuck => .stuck
  | .retO i, e => match slot e i with
    | .own d => .ok (.ret true d) (e.set i .no)
    | _ => .stuck
  | .ex a, e => match ev C a e with
    | .ok _ e1 => .ok .next e1
    | .exc c e1 => .exc c e1
    | .stuck => .stuck
  | .raise c, e => .exc c e
  | .pass, e => .ok .next e
def execs : ISs → Env → Res Fl
  | .nil, e => .ok .next e
  | .cons a as, e => match exec a e with
    | .ok .next e1 => execs as e1
    | r => r
end
end

/-! ## defs -/
structure Fn where
  /-- how many parameters, the one handed on to be changed not counted; all places; is the first parameter changed; does it give a new list out -/
  ps : Nat
  n : Nat
  inout : Bool
  fresh : Bool
  body : ISs
abbrev Tab := String → Option Fn
def envOf (f : Fn) (ds : List D) (s : D) : Env :=
  (if f.inout then [Slot.inp s] else []) ++ ds.map Slot.val ++ List.replicate (f.n - ds.length - (if f.inout then 1 else 0)) Slot.no
def selfOf (f : Fn) (e : Env) : Option D :=
  if f.inout then (match slot e 0 with | .inp s => some s | _ => none) else some .none
def runFn (C : Calls) (f : Fn) (ds : List D) (s : D) : CR :=
  if ds.length = f.ps then
    match execs C f.body (envOf f ds s) with
    | .ok r e => match selfOf f e, r with
      | some s', .ret o d => if o == f.fresh then .ok d s' else .stuck
      | some s', .next => if f.fresh then .stuck else .ok .none s'
      | none, _ => .stuck
    | .exc c e => match selfOf f e with
      | some s' => .exc c s'
      | none => .stuck
    | .stuck => .stuck
  else .stuck
def callk (T : Tab) : Nat → Calls
  | 0 => fun _ _ _ => .stuck
  | k + 1 => fun f ds s => match T f with
    | some fn => runFn (callk T k) fn ds s
    | none => .stuck
end BT
namespace BT
open PySem PySem.Spec PyProof.Rows L2
/-! ## what a value of the machine stands for: F is the part of the abstract heap that never changes -/
def TupAt (K : PySem.W.Frag) (F : Hp) (a : Addr) (xs : List V) : Prop :=
  xs.length ≤ sizeLine ∧ ((∃ o, F a = some (.frz o (.tup xs)) ∧ o.dict = none ∧ o.cls = .type "tuple") ∨
    ∃ (o : Obj) (its : Array Value) (n : Nat), K.lookup a = some o ∧ o.cls = .type "tuple" ∧ o.dict = none ∧ o.data = .seq its n ∧ its.size ≤ sizeLine ∧ Vals xs its.toList)
def LstAt (K : PySem.W.Frag) (F : Hp) (a : Addr) (xs : List V) : Prop :=
  xs.length ≤ sizeLine ∧ (F a = some (.lst xs) ∨ (∃ o, F a = some (.frz o (.lst xs))) ∨
    ∃ (o : Obj) (its : Array Value) (n : Nat), K.lookup a = some o ∧ o.cls = .type "list" ∧ o.dict = none ∧ o.data = .seq its n ∧ its.size ≤ sizeLine ∧ Vals xs its.toList)
theorem TupAt.sq {K : PySem.W.Frag} {F : Hp} {a : Addr} {xs : List V} (h : TupAt K F a xs) : SqT K F a xs := by
  rcases h.2 with ⟨o, e, _⟩ | ⟨o, its, n, e, c, _, d, z, r⟩
  · exact .inl (.inr ⟨o, e⟩)
  · exact .inr ⟨o, its, n, e, c, d, z, r⟩
theorem LstAt.sq {K : PySem.W.Frag} {F : Hp} {a : Addr} {xs : List V} (h : LstAt K F a xs) : SqL K F a xs := by
  rcases h.2 with e | ⟨o, e⟩ | ⟨o, its, n, e, c, d, d2, z, r⟩
  · exact .inl (.inl e)
  · exact .inl (.inr ⟨o, e⟩)
  · exact .inr ⟨o, its, n, e, c, d, d2, z, r⟩
theorem TupAt.mono {K : PySem.W.Frag} {F F' : Hp} {a : Addr} {xs : List V} (h : TupAt K F a xs) (s : Same F F') : TupAt K F' a xs :=
  ⟨h.1, h.2.imp (fun ⟨o, e, d⟩ => ⟨o, s _ _ e, d⟩) id⟩
theorem LstAt.mono {K : PySem.W.Frag} {F F' : Hp} {a : Addr} {xs : List V} (h : LstAt K F a xs) (s : Same F F') : LstAt K F' a xs :=
  ⟨h.1, h.2.imp (fun e => s _ _ e) (Or.imp (fun ⟨o, e⟩ => ⟨o, s _ _ e⟩) id)⟩
mutual
inductive Rep (K : PySem.W.Frag) (F : Hp) : D → V → Prop
  | non : Rep K F .none .non
  | bl (b : Bool) : Rep K F (.bool b) (.bl b)
  | int (i : Int) : Rep K F (.int i) (.int i)
  | str (x : Str) : Rep K F (.str x) (.str x)
  | lst {a : Addr} {xs : List V} {ds : List D} : LstAt K F a xs → Reps K F ds xs → Rep K F (.list ds) (.ref a)
  | tup {a : Addr} {xs : List V} {ds : List D} : TupAt K F a xs → Reps K F ds xs → Rep K F (.tuple ds) (.ref a)
inductive Reps (K : PySem.W.Frag) (F : Hp) : List D → List V → Prop
  | nil : Reps K F [] []
  | cons {d : D} {v : V} {ds : List D} {vs : List V} : Rep K F d v → Reps K F ds vs → Reps K F (d :: ds) (v :: vs)
end
section
variable {K : PySem.W.Frag} {F F' H : Hp}
mutual
theorem Rep.mono (s : Same F F') : ∀ {d : D} {v : V}, Rep K F d v → Rep K F' d v
  | _, _, .non => .non
  | _, _, .bl b => .bl b
  | _, _, .int i => .int i
  | _, _, .str x => .str x
  | _, _, .lst h r => .lst (h.mono s) (Reps.mono s r)
  | _, _, .tup h r => .tup (h.mono s) (Reps.mono s r)
theorem Reps.mono (s : Same F F') : ∀ {ds : List D} {vs : List V}, Reps K F ds vs → Reps K F' ds vs
  | _, _, .nil => .nil
  | _, _, .cons h r => .cons (Rep.mono s h) (Reps.mono s r)
end
mutual
theorem Rep.dp : ∀ {d : D} {v : V}, Rep K F d v → Dp K F v d
  | _, _, .non => .non
  | _, _, .bl b => .bl b
  | _, _, .int i => .int i
  | _, _, .str x => .str x
  | _, _, .lst h r => .lst h.sq (Reps.dp r)
  | _, _, .tup h r => .tup h.sq (Reps.dp r)
theorem Reps.dp : ∀ {ds : List D} {vs : List V}, Reps K F ds vs → DpAll K F vs ds
  | _, _, .nil => .nil
  | _, _, .cons h r => .cons (Rep.dp h) (Reps.dp r)
end
theorem Reps.length : ∀ {ds : List D} {vs : List V}, Reps K F ds vs → vs.length = ds.length
  | _, _, .nil => rfl
  | _, _, .cons _ r => by rw [List.length_cons, List.length_cons, Reps.length r]
theorem Reps.get : ∀ {ds : List D} {vs : List V} {i : Nat} {d : D}, Reps K F ds vs → ds[i]? = some d → ∃ v, vs[i]? = some v ∧ Rep K F d v
  | _, _, _, _, .nil, e => by simp at e
  | _, _, 0, _, .cons h _, e => by simp at e; subst e; exact ⟨_, rfl, h⟩
  | _, _, i + 1, d, .cons _ r, e => by
    obtain ⟨v, h1, h2⟩ := Reps.get (i := i) (d := d) r (by simpa using e)
    exact ⟨v, by simpa using h1, h2⟩
theorem Reps.getV : ∀ {ds : List D} {vs : List V} {i : Nat} {v : V}, Reps K F ds vs → vs[i]? = some v → ∃ d, ds[i]? = some d ∧ Rep K F d v
  | _, _, _, _, .nil, e => by simp at e
  | _, _, 0, _, .cons h _, e => by simp at e; subst e; exact ⟨_, rfl, h⟩
  | _, _, i + 1, d, .cons _ r, e => by
    obtain ⟨v, h1, h2⟩ := Reps.getV (i := i) (v := d) r (by simpa using e)
    exact ⟨v, by simpa using h1, h2⟩
theorem Reps.append : ∀ {ds es : List D} {vs ws : List V}, Reps K F ds vs → Reps K F es ws → Reps K F (ds ++ es) (vs ++ ws)
  | _, _, _, _, .nil, s => s
  | _, _, _, _, .cons h r, s => .cons h (Reps.append r s)
theorem Reps.take : ∀ {ds : List D} {vs : List V} (n : Nat), Reps K F ds vs → Reps K F (ds.take n) (vs.take n)
  | _, _, 0, _ => .nil
  | _, _, _ + 1, .nil => .nil
  | _, _, n + 1, .cons h r => .cons h (Reps.take n r)
theorem Reps.drop : ∀ {ds : List D} {vs : List V} (n : Nat), Reps K F ds vs → Reps K F (ds.drop n) (vs.drop n)
  | _, _, 0, r => r
  | _, _, _ + 1, .nil => .nil
  | _, _, n + 1, .cons _ r => Reps.drop n r
theorem Reps.snoc {ds : List D} {vs : List V} {d : D} {v : V} (r : Reps K F ds vs) (h : Rep K F d v) : Reps K F (ds ++ [d]) (vs ++ [v]) := r.append (.cons h .nil)
theorem Reps.reverse : ∀ {ds : List D} {vs : List V}, Reps K F ds vs → Reps K F ds.reverse vs.reverse
  | _, _, .nil => .nil
  | _, _, .cons h r => by rw [List.reverse_cons, List.reverse_cons]; exact (Reps.reverse r).snoc h
theorem Reps.set {d : D} {v : V} (h : Rep K F d v) : ∀ {ds : List D} {vs : List V} (i : Nat), Reps K F ds vs → Reps K F (ds.set i d) (vs.set i v)
  | _, _, _, .nil => .nil
  | _, _, 0, .cons _ r => .cons h r
  | _, _, i + 1, .cons q r => .cons q (Reps.set h i r)
theorem Reps.eraseIdx : ∀ {ds : List D} {vs : List V} (i : Nat), Reps K F ds vs → Reps K F (ds.eraseIdx i) (vs.eraseIdx i)
  | _, _, _, .nil => .nil
  | _, _, 0, .cons _ r => r
  | _, _, i + 1, .cons q r => .cons q (Reps.eraseIdx i r)
theorem Reps.dropLast {ds : List D} {vs : List V} (r : Reps K F ds vs) : Reps K F ds.dropLast vs.dropLast := by
  rw [List.dropLast_eq_take, List.dropLast_eq_take, r.length]
  exact r.take _
theorem Reps.rep {ds : List D} {vs : List V} (r : Reps K F ds vs) : ∀ k : Nat, Reps K F (List.replicate k ds).flatten (List.replicate k vs).flatten
  | 0 => .nil
  | k + 1 => by
    rw [List.replicate_succ, List.replicate_succ, List.flatten_cons, List.flatten_cons]
    exact r.append (Reps.rep r k)
theorem Reps.ints : ∀ {ns : List Int}, Reps K F (ns.map PyData.int) (ns.map V.int)
  | [] => .nil
  | n :: ns => .cons (.int n) Reps.ints
theorem ints?_eq : ∀ {ds : List D} {ns : List Int}, ints? ds = some ns → ds = ns.map PyData.int
  | [], ns, h => by
    have e : ns = [] := by simpa [ints?] using h.symm
    rw [e]; rfl
  | .int i :: ds, ns, h => by
    cases q : ints? ds with
    | none => simp [ints?, q] at h
    | some ms =>
      have e : ns = i :: ms := by simpa [ints?, q] using h.symm
      rw [e, List.map_cons, ints?_eq q]
  | .none :: _, _, h => by simp [ints?] at h
  | .bool _ :: _, _, h => by simp [ints?] at h
  | .str _ :: _, _, h => by simp [ints?] at h
  | .list _ :: _, _, h => by simp [ints?] at h
  | .tuple _ :: _, _, h => by simp [ints?] at h
  | .dict _ :: _, _, h => by simp [ints?] at h
theorem ints?_map : ∀ (ns : List Int), ints? (ns.map PyData.int) = some ns
  | [] => rfl
  | n :: ns => by simp [ints?, ints?_map ns]
theorem bools?_eq : ∀ {ds : List D} {ns : List Bool}, bools? ds = some ns → ds = ns.map PyData.bool
  | [], ns, h => by
    have e : ns = [] := by simpa [bools?] using h.symm
    rw [e]; rfl
  | .bool i :: ds, ns, h => by
    cases q : bools? ds with
    | none => simp [bools?, q] at h
    | some ms =>
      have e : ns = i :: ms := by simpa [bools?, q] using h.symm
      rw [e, List.map_cons, bools?_eq q]
  | .none :: _, _, h => by simp [bools?] at h
  | .int _ :: _, _, h => by simp [bools?] at h
  | .str _ :: _, _, h => by simp [bools?] at h
  | .list _ :: _, _, h => by simp [bools?] at h
  | .tuple _ :: _, _, h => by simp [bools?] at h
  | .dict _ :: _, _, h => by simp [bools?] at h
theorem bools?_map : ∀ (ns : List Bool), bools? (ns.map PyData.bool) = some ns
  | [] => rfl
  | n :: ns => by simp [bools?, bools?_map ns]
theorem Reps.ofInts : ∀ {ns : List Int} {vs : List V}, Reps K F (ns.map PyData.int) vs → vs = ns.map V.int
  | [], _, h => by cases h; rfl
  | n :: ns, _, h => by
    cases h with
    | cons h r =>
      cases h
      rw [List.map_cons, Reps.ofInts r]
theorem Reps.ofBools : ∀ {ns : List Bool} {vs : List V}, Reps K F (ns.map PyData.bool) vs → vs = ns.map V.bl
  | [], _, h => by cases h; rfl
  | n :: ns, _, h => by
    cases h with
    | cons h r =>
      cases h
      rw [List.map_cons, Reps.ofBools r]

/-! ## a place's own object -/
def Own (K : PySem.W.Frag) (F H : Hp) (d : D) (a : Addr) : Prop :=
  match d with
  | .list ds => ∃ vs, H a = some (.lst vs) ∧ vs.length ≤ sizeLine ∧ Reps K F ds vs
  | _ => False
theorem Own.mono (s : Same F F') {d : D} {a : Addr} (h : Own K F H d a) : Own K F' H d a := by
  cases d with
  | list ds => obtain ⟨vs, e, z, r⟩ := h; exact ⟨vs, e, z, r.mono s⟩
  | _ => exact h.elim
theorem Own.at {H' : Hp} {d : D} {a : Addr} (h : Own K F H d a) (e : ∀ o, H a = some o → H' a = some o) : Own K F H' d a := by
  cases d with
  | list ds => obtain ⟨vs, e1, z, r⟩ := h; exact ⟨vs, e _ e1, z, r⟩
  | _ => exact h.elim
theorem Own.some {d : D} {a : Addr} (h : Own K F H d a) : ∃ o, H a = Option.some o := by
  cases d with
  | list ds => obtain ⟨vs, e1, _⟩ := h; exact ⟨_, e1⟩
  | _ => exact h.elim
/-- a value as it may be read now -/
inductive RepT (K : PySem.W.Frag) (F H : Hp) : D → V → Prop
  | rep {d : D} {v : V} : Rep K F d v → RepT K F H d v
  | own {d : D} {a : Addr} : Own K F H d a → RepT K F H d (.ref a)

/-! ## the state -/
/-- where a def's run began: what never changed then, the heap, the object that it may change -/
structure Ent where
  F : Hp
  H : Hp
  ex : Option Addr
/-- where a place's own object came from -/
def zOk (Z : Ent) (x : Slot) (a : Addr) : Prop :=
  match x with
  | .own _ => Z.H a = none
  | .inp _ => Z.ex = some a
  | _ => False
structure R (K : PySem.W.Frag) (Z : Ent) (F : Hp) (env : Env) (σ : L2.St) (H : Hp) : Prop where
  fh : Same F H
  f0 : Same Z.F F
  nw : ∀ b o, Z.H b = some o → F b = Z.F b
  g : ∀ b o, Z.H b = some o → Z.ex ≠ some b → H b = some o
  gx : ∀ b o, Z.H b = some o → ∃ o', H b = some o'
  xe : ∀ a, Z.ex = some a → ∃ o, Z.H a = some o
  len : env.length = σ.length
  vl : ∀ (i : Nat) (d : D), env[i]? = some (.val d) → ∃ v, σ[i]? = some (some v) ∧ Rep K F d v
  ow : ∀ (i : Nat) (x : Slot) (d : D), env[i]? = some x → ownD x = some d → ∃ a, σ[i]? = some (some (.ref a)) ∧ Own K F H d a ∧ F a = none ∧ zOk Z x a
  ap : ∀ (i j : Nat) (x y : Slot) (d e : D) (a : Addr), env[i]? = some x → env[j]? = some y → ownD x = some d → ownD y = some e → σ[i]? = some (some (.ref a)) → σ[j]? = some (some (.ref a)) → i = j
/-- a new object that no place holds yet -/
structure Fresh (K : PySem.W.Frag) (Z : Ent) (F : Hp) (env : Env) (σ : L2.St) (H : Hp) (d : D) (a : Addr) : Prop where
  ow : Own K F H d a
  nf : F a = none
  n0 : Z.H a = none
  nx : Z.ex ≠ some a
  ap : ∀ (i : Nat) (x : Slot) (d : D), env[i]? = some x → ownD x = some d → σ[i]? ≠ some (some (.ref a))
end
section
variable {K : PySem.W.Frag} {Z : Ent} {F F' H H' : Hp} {env : Env} {σ : L2.St}
theorem same_upd {H : Hp} {p : Addr} {o : HO} (h : H p = none) : Same H (upd H p o) := fun b x e => by
  rw [upd_ne (ne_of_none e h)]
  exact e
theorem R.z0 (r : R K Z F env σ H) {p : Addr} (h : H p = none) : Z.H p = none := by
  cases q : Z.H p with
  | none => rfl
  | some o =>
    obtain ⟨o', e⟩ := r.gx p o q
    rw [h] at e; cases e
theorem R.f0n (r : R K Z F env σ H) {p : Addr} (h : H p = none) : F p = none := r.fh.free h
theorem R.xn (r : R K Z F env σ H) {p : Addr} (h : H p = none) : Z.ex ≠ some p := fun e => by
  obtain ⟨o, q⟩ := r.xe p e
  rw [r.z0 h] at q; cases q
/-- a new object that never changes -/
theorem R.new (r : R K Z F env σ H) {p : Addr} {o : HO} (h : H p = none) : R K Z (upd F p o) env σ (upd H p o) := by
  have hf := r.f0n h
  have sf : Same F (upd F p o) := same_upd hf
  refine ⟨fun b x e => ?_, r.f0.trans sf, fun b x e => ?_, fun b x e ne => ?_, fun b x e => ?_, r.xe, r.len, fun i d e => ?_, fun i y d e e' => ?_, r.ap⟩
  · by_cases hb : b = p
    · subst hb; rw [upd_same] at e ⊢; exact e
    · rw [upd_ne hb] at e ⊢; exact r.fh b x e
  · have hb : b ≠ p := fun z => by subst z; rw [r.z0 h] at e; cases e
    rw [upd_ne hb]; exact r.nw b x e
  · have hb : b ≠ p := fun z => by subst z; rw [r.z0 h] at e; cases e
    rw [upd_ne hb]; exact r.g b x e ne
  · have hb : b ≠ p := fun z => by subst z; rw [r.z0 h] at e; cases e
    rw [upd_ne hb]; exact r.gx b x e
  · obtain ⟨v, e1, q⟩ := r.vl i d e; exact ⟨v, e1, q.mono sf⟩
  · obtain ⟨a, e1, q, n, z⟩ := r.ow i y d e e'
    obtain ⟨o', eo⟩ := q.some
    have ha : a ≠ p := fun z => by subst z; rw [h] at eo; cases eo
    exact ⟨a, e1, (q.mono sf).at fun o e => by rw [upd_ne ha]; exact e, by rw [upd_ne ha]; exact n, z⟩
theorem R.sameNew (r : R K Z F env σ H) {p : Addr} {o : HO} (h : H p = none) : Same F (upd F p o) := same_upd (r.f0n h)
/-- a new list that may change -/
theorem R.newOwn (r : R K Z F env σ H) {p : Addr} {ds : List D} {vs : List V} (h : H p = none) (z : vs.length ≤ sizeLine) (q : Reps K F ds vs) :
    R K Z F env σ (upd H p (.lst vs)) ∧ Fresh K Z F env σ (upd H p (.lst vs)) (.list ds) p := by
  have hf := r.f0n h
  refine ⟨⟨fun b x e => ?_, r.f0, r.nw, fun b x e ne => ?_, fun b x e => ?_, r.xe, r.len, r.vl, fun i y d e e' => ?_, r.ap⟩, ⟨⟨vs, upd_same, z, q⟩, hf, r.z0 h, r.xn h, fun i y d e e' e2 => ?_⟩⟩
  · rw [upd_ne (ne_of_none e hf)]; exact r.fh b x e
  · have hb : b ≠ p := fun z => by subst z; rw [r.z0 h] at e; cases e
    rw [upd_ne hb]; exact r.g b x e ne
  · have hb : b ≠ p := fun z => by subst z; rw [r.z0 h] at e; cases e
    rw [upd_ne hb]; exact r.gx b x e
  · obtain ⟨a, e1, q, n, z⟩ := r.ow i y d e e'
    obtain ⟨o', eo⟩ := q.some
    have ha : a ≠ p := fun z => by subst z; rw [h] at eo; cases eo
    exact ⟨a, e1, q.at fun o e => by rw [upd_ne ha]; exact e, n, z⟩
  · obtain ⟨a, e1, q, n, z⟩ := r.ow i y d e e'
    rw [e1] at e2; cases e2
    obtain ⟨o', eo⟩ := q.some
    rw [h] at eo; cases eo
/-- what is the heap's object at a, from now on never changed -/
def frzAt (F H : Hp) (a : Addr) : Hp := fun b => if b = a then H a else F b
theorem frzAt_same {F H : Hp} {a : Addr} (n : F a = none) : Same F (frzAt F H a) := fun b o e => by
  unfold frzAt; rw [if_neg (ne_of_none e n)]; exact e
theorem Own.rep {d : D} {a : Addr} (h : Own K F H d a) (n : F a = none) : Rep K (frzAt F H a) d (.ref a) := by
  cases d with
  | list ds =>
    obtain ⟨vs, e, z, r⟩ := h
    exact .lst ⟨z, .inl (by unfold frzAt; rw [if_pos rfl]; exact e)⟩ (r.mono (frzAt_same n))
  | _ => exact h.elim
/-- an object that no place holds is from now on never changed -/
theorem R.frz (r : R K Z F env σ H) {d : D} {a : Addr} (ow : Own K F H d a) (nf : F a = none) (n0 : Z.H a = none) (ap : ∀ (i : Nat) (x : Slot) (d : D), env[i]? = some x → ownD x = some d → σ[i]? ≠ some (some (.ref a))) :
    R K Z (frzAt F H a) env σ H ∧ Same F (frzAt F H a) ∧ Rep K (frzAt F H a) d (.ref a) := by
  have sf := frzAt_same (H := H) nf
  refine ⟨⟨fun b x e => ?_, r.f0.trans sf, fun b x e => ?_, r.g, r.gx, r.xe, r.len, fun i d e => ?_, fun i y d e e' => ?_, r.ap⟩, sf, ow.rep nf⟩
  · unfold frzAt at e
    by_cases hb : b = a
    · rw [if_pos hb] at e; rw [hb]; exact e
    · rw [if_neg hb] at e; exact r.fh b x e
  · have hb : b ≠ a := fun z => by rw [z, n0] at e; cases e
    unfold frzAt; rw [if_neg hb]; exact r.nw b x e
  · obtain ⟨v, e1, q⟩ := r.vl i d e; exact ⟨v, e1, q.mono sf⟩
  · obtain ⟨b, e1, q, n, z⟩ := r.ow i y d e e'
    have hb : b ≠ a := fun z => by rw [z] at e1; exact ap i y d e e' e1
    exact ⟨b, e1, q.mono sf, by unfold frzAt; rw [if_neg hb]; exact n, z⟩
theorem R.freeze (r : R K Z F env σ H) {d : D} {a : Addr} (f : Fresh K Z F env σ H d a) : R K Z (frzAt F H a) env σ H ∧ Same F (frzAt F H a) ∧ Rep K (frzAt F H a) d (.ref a) := r.frz f.ow f.nf f.n0 f.ap
theorem slot_get {e : Env} {i : Nat} {x : Slot} (h : slot e i = x) (n : x ≠ .no) : e[i]? = some x := by
  unfold slot at h
  rw [List.getD_eq_getElem?_getD] at h
  cases q : e[i]? with
  | none => rw [q] at h; exact absurd h.symm n
  | some y => rw [q] at h; exact congrArg _ h
theorem ownD_no {x : Slot} {d : D} (h : ownD x = some d) : x ≠ .no := fun z => by subst z; cases h
theorem slot_ownD {e : Env} {i : Nat} {d : D} (h : ownD (slot e i) = some d) : e[i]? = some (slot e i) := slot_get rfl (ownD_no h)
theorem lt_of_slot {e : Env} {i : Nat} {x : Slot} (h : e[i]? = some x) : i < e.length := (List.getElem?_eq_some_iff.mp h).1
theorem set_at {e : Env} {i j : Nat} {x y : Slot} (h : (e.set i x)[j]? = some y) : (j = i ∧ y = x) ∨ (j ≠ i ∧ e[j]? = some y) := by
  by_cases hj : j = i
  · subst hj
    have hl : j < e.length := by
      have := (List.getElem?_eq_some_iff.mp h).1
      rwa [List.length_set] at this
    rw [List.getElem?_set_self hl] at h
    exact .inl ⟨rfl, (Option.some.inj h).symm⟩
  · rw [List.getElem?_set_ne (Ne.symm hj)] at h
    exact .inr ⟨hj, h⟩
/-- a place is forgotten -/
theorem R.drop (r : R K Z F env σ H) (i : Nat) : R K Z F (env.set i .no) σ H := by
  refine ⟨r.fh, r.f0, r.nw, r.g, r.gx, r.xe, by rw [List.length_set]; exact r.len, fun j d e => ?_, fun j x d e e' => ?_, fun j l x y d1 d2 b h1 h2 h1' h2' h3 h4 => ?_⟩
  · rcases set_at e with ⟨_, z⟩ | ⟨_, e⟩
    · cases z
    · exact r.vl j d e
  · rcases set_at e with ⟨_, z⟩ | ⟨_, e⟩
    · subst z; cases e'
    · exact r.ow j x d e e'
  · rcases set_at h1 with ⟨_, z⟩ | ⟨_, h1⟩
    · subst z; cases h1'
    · rcases set_at h2 with ⟨_, z⟩ | ⟨_, h2⟩
      · subst z; cases h2'
      · exact r.ap j l x y d1 d2 b h1 h2 h1' h2' h3 h4
/-- .. with its slot -/
theorem R.dropS (r : R K Z F env σ H) (i : Nat) : R K Z F (env.set i .no) (σ.set i none) H := by
  refine ⟨r.fh, r.f0, r.nw, r.g, r.gx, r.xe, by rw [List.length_set, List.length_set]; exact r.len, fun j d e => ?_, fun j x d e e' => ?_, fun j l x y d1 d2 b h1 h2 h1' h2' h3 h4 => ?_⟩
  · rcases set_at e with ⟨_, z⟩ | ⟨n, e⟩
    · cases z
    · rw [List.getElem?_set_ne (Ne.symm n)]; exact r.vl j d e
  · rcases set_at e with ⟨_, z⟩ | ⟨n, e⟩
    · subst z; cases e'
    · rw [List.getElem?_set_ne (Ne.symm n)]; exact r.ow j x d e e'
  · rcases set_at h1 with ⟨_, z⟩ | ⟨n, h1⟩
    · subst z; cases h1'
    · rcases set_at h2 with ⟨_, z⟩ | ⟨m, h2⟩
      · subst z; cases h2'
      · rw [List.getElem?_set_ne (Ne.symm n)] at h3
        rw [List.getElem?_set_ne (Ne.symm m)] at h4
        exact r.ap j l x y d1 d2 b h1 h2 h1' h2' h3 h4
/-- a value goes into a place -/
theorem R.setV (r : R K Z F env σ H) {i : Nat} {d : D} {v : V} (hi : i < env.length) (q : Rep K F d v) : R K Z F (env.set i (.val d)) (σ.set i (some v)) H := by
  have hs : i < σ.length := r.len ▸ hi
  refine ⟨r.fh, r.f0, r.nw, r.g, r.gx, r.xe, by rw [List.length_set, List.length_set]; exact r.len, fun j d' e' => ?_, fun j x d' e e' => ?_, fun j l x y d1 d2 b h1 h2 h1' h2' h3 h4 => ?_⟩
  · rcases set_at e' with ⟨z1, z⟩ | ⟨n, e⟩
    · subst z1; cases z; exact ⟨v, List.getElem?_set_self hs, q⟩
    · rw [List.getElem?_set_ne (Ne.symm n)]; exact r.vl j d' e
  · rcases set_at e with ⟨_, z⟩ | ⟨n, e⟩
    · subst z; cases e'
    · rw [List.getElem?_set_ne (Ne.symm n)]; exact r.ow j x d' e e'
  · rcases set_at h1 with ⟨_, z⟩ | ⟨n, h1⟩
    · subst z; cases h1'
    · rcases set_at h2 with ⟨_, z⟩ | ⟨m, h2⟩
      · subst z; cases h2'
      · rw [List.getElem?_set_ne (Ne.symm n)] at h3
        rw [List.getElem?_set_ne (Ne.symm m)] at h4
        exact r.ap j l x y d1 d2 b h1 h2 h1' h2' h3 h4
/-- a new object goes into a place as its own -/
theorem R.setO (r : R K Z F env σ H) {i : Nat} {d : D} {a : Addr} (hi : i < env.length) (f : Fresh K Z F env σ H d a) : R K Z F (env.set i (.own d)) (σ.set i (some (.ref a))) H := by
  have hs : i < σ.length := r.len ▸ hi
  refine ⟨r.fh, r.f0, r.nw, r.g, r.gx, r.xe, by rw [List.length_set, List.length_set]; exact r.len, fun j d' e' => ?_, fun j x d' e e' => ?_, fun j l x y d1 d2 b h1 h2 h1' h2' h3 h4 => ?_⟩
  · rcases set_at e' with ⟨z1, z⟩ | ⟨n, e⟩
    · cases z
    · rw [List.getElem?_set_ne (Ne.symm n)]; exact r.vl j d' e
  · rcases set_at e with ⟨z1, z⟩ | ⟨n, e⟩
    · subst z1 z
      cases e'
      exact ⟨a, List.getElem?_set_self hs, f.ow, f.nf, f.n0⟩
    · rw [List.getElem?_set_ne (Ne.symm n)]; exact r.ow j x d' e e'
  · rcases set_at h1 with ⟨z1, z⟩ | ⟨n, g1⟩
    · subst z1 z
      rw [List.getElem?_set_self hs] at h3
      cases h3
      rcases set_at h2 with ⟨z2, z⟩ | ⟨m, h2⟩
      · exact z2.symm
      · rw [List.getElem?_set_ne (Ne.symm m)] at h4
        exact absurd h4 (f.ap l y d2 h2 h2')
    · rw [List.getElem?_set_ne (Ne.symm n)] at h3
      rcases set_at h2 with ⟨z2, z⟩ | ⟨m, g2⟩
      · rw [z2, List.getElem?_set_self hs] at h4
        cases h4
        exact absurd h3 (f.ap j x d1 g1 h1')
      · rw [List.getElem?_set_ne (Ne.symm m)] at h4
        exact r.ap j l x y d1 d2 b g1 g2 h1' h2' h3 h4
/-- a place's own object read as a whole: from now on it never changes -/
theorem R.take (r : R K Z F env σ H) {i : Nat} {d : D} (h : slot env i = .own d) :
    ∃ v F', σ[i]? = some (some v) ∧ R K Z F' (env.set i (.val d)) σ H ∧ Same F F' ∧ Rep K F' d v := by
  have e := slot_get h fun z => nomatch z
  obtain ⟨a, e1, q, n, z⟩ := r.ow i _ d e rfl
  have hi := lt_of_slot e
  have r1 := r.drop i
  obtain ⟨r2, sf, rp⟩ := r1.frz q n z fun j x d' e2 e3 e4 => by
    rcases set_at e2 with ⟨_, z⟩ | ⟨m, e2⟩
    · subst z; cases e3
    · exact m (r.ap j i x _ d' d a e2 e e3 rfl e4 e1)
  have r3 := r2.setV (i := i) (by rw [List.length_set]; exact hi) rp
  have e5 : (env.set i Slot.no).set i (.val d) = env.set i (.val d) := by rw [List.set_set]
  have e6 : σ.set i (some (.ref a)) = σ := by
    have hs : i < σ.length := r.len ▸ hi
    refine List.ext_getElem? fun j => ?_
    by_cases hj : j = i
    · subst hj; rw [List.getElem?_set_self hs, e1]
    · rw [List.getElem?_set_ne (Ne.symm hj)]
  rw [e5, e6] at r3
  exact ⟨.ref a, _, e1, r3, sf, rp⟩
/-- a place's own object is given away -/
theorem R.give (r : R K Z F env σ H) {i : Nat} {d : D} (h : slot env i = .own d) :
    ∃ a, σ[i]? = some (some (.ref a)) ∧ R K Z F (env.set i .no) σ H ∧ Fresh K Z F (env.set i .no) σ H d a := by
  have e := slot_get h fun z => nomatch z
  obtain ⟨a, e1, q, n, z⟩ := r.ow i _ d e rfl
  refine ⟨a, e1, r.drop i, ⟨q, n, z, fun y => ?_, fun j x d' e2 e3 e4 => ?_⟩⟩
  · obtain ⟨o, w⟩ := r.xe a y
    rw [show Z.H a = none from z] at w; cases w
  · rcases set_at e2 with ⟨_, z⟩ | ⟨m, e2⟩
    · subst z; cases e3
    · exact m (r.ap j i x _ d' d a e2 e e3 rfl e4 e1)
theorem ownD_reOwn (x : Slot) (d : D) : ownD (reOwn x d) = some d := by cases x <;> rfl
theorem zOk_reOwn {x : Slot} {d d' : D} {a : Addr} (h : ownD x = some d) (z : zOk Z x a) : zOk Z (reOwn x d') a := by
  cases x with
  | own _ => exact z
  | inp _ => exact z
  | _ => cases h
/-- a place's own object is changed, and what else the code behind it may change -/
theorem R.mutG (r : R K Z F env σ H) {i : Nat} {d d' : D} {a : Addr} {H' F' : Hp} (h : ownD (slot env i) = some d) (ha : σ[i]? = some (some (.ref a))) (q : Own K F' H' d' a)
    (sf : Same F F') (fh : Same F' H') (hk : ∀ b o, H b = some o → b ≠ a → H' b = some o) (fn : ∀ b o, H b = some o → F' b = F b) :
    R K Z F' (env.set i (reOwn (slot env i) d')) σ H' := by
  have e := slot_ownD h
  have hi := lt_of_slot e
  obtain ⟨a', e1, q1, n, z⟩ := r.ow i _ d e h
  rw [ha] at e1
  cases e1
  have keepZ : ∀ b o, Z.H b = some o → Z.ex ≠ some b → b ≠ a := fun b o e ne y => by
    subst y
    cases hx : slot env i with
    | own _ =>
      rw [hx] at z
      have z : Z.H b = none := z
      rw [z] at e; cases e
    | inp _ =>
      rw [hx] at z
      exact ne z
    | _ => rw [hx] at h; cases h
  have hH : ∀ b o, Z.H b = some o → ∃ o', H b = some o' := r.gx
  have ha' : ∃ o, H' a = some o := q.some
  refine ⟨fh, r.f0.trans sf, fun b x e => ?_, fun b x e ne => hk b x (r.g b x e ne) (keepZ b x e ne), fun b x e => ?_, r.xe, by rw [List.length_set]; exact r.len, fun j d' e' => ?_, fun j x d' e2 e3 => ?_, fun j l x y d1 d2 b h1 h2 h1' h2' h3 h4 => ?_⟩
  · obtain ⟨o', eo⟩ := r.gx b x e
    rw [fn b o' eo]
    exact r.nw b x e
  · obtain ⟨o', eo⟩ := r.gx b x e
    by_cases hb : b = a
    · rw [hb]; exact ha'
    · exact ⟨o', hk b o' eo hb⟩
  · rcases set_at e' with ⟨_, z⟩ | ⟨_, e'⟩
    · exact absurd (congrArg ownD z) (by rw [ownD_reOwn]; intro y; cases y)
    · obtain ⟨v, e4, q4⟩ := r.vl j d' e'
      exact ⟨v, e4, q4.mono sf⟩
  · rcases set_at e2 with ⟨z1, z2⟩ | ⟨m, e2⟩
    · subst z1 z2
      rw [ownD_reOwn] at e3
      cases e3
      obtain ⟨oa, hoa⟩ := q1.some
      exact ⟨a, ha, q, by rw [fn a oa hoa]; exact n, zOk_reOwn h z⟩
    · obtain ⟨b, e4, q4, n4, z4⟩ := r.ow j x d' e2 e3
      have hb : b ≠ a := fun z => m (r.ap j i x _ d' d a e2 e e3 h (z ▸ e4) ha)
      obtain ⟨ob, hob⟩ := q4.some
      refine ⟨b, e4, (q4.mono sf).at fun o e => ?_, ?_, z4⟩
      · exact hk b o e hb
      · rw [fn b ob hob]; exact n4
  · have g : ∀ (j : Nat) (x : Slot) (d1 : D), (env.set i (reOwn (slot env i) d'))[j]? = some x → ownD x = some d1 → ∃ x' d2, env[j]? = some x' ∧ ownD x' = some d2 := fun j x d1 h1 h2 => by
      rcases set_at h1 with ⟨z1, z2⟩ | ⟨_, h1⟩
      · subst z1; exact ⟨_, d, e, h⟩
      · exact ⟨x, d1, h1, h2⟩
    obtain ⟨x', d3, h1, h1'⟩ := g j x d1 h1 h1'
    obtain ⟨y', d4, h2, h2'⟩ := g l y d2 h2 h2'
    exact r.ap j l x' y' d3 d4 b h1 h2 h1' h2' h3 h4
theorem R.mut (r : R K Z F env σ H) {i : Nat} {d d' : D} {a : Addr} {o : HO} (h : ownD (slot env i) = some d) (ha : σ[i]? = some (some (.ref a))) (q : Own K F (upd H a o) d' a) :
    R K Z F (env.set i (reOwn (slot env i) d')) σ (upd H a o) := by
  obtain ⟨a', e1, q1, n, z⟩ := r.ow i _ d (slot_ownD h) h
  rw [ha] at e1
  cases e1
  exact r.mutG h ha q (Same.refl F) (fun b x e => by rw [upd_ne (ne_of_none e n)]; exact r.fh b x e) (fun b x e ne => by rw [upd_ne ne]; exact e) fun _ _ _ => rfl
/-- behind a call that changes nothing of ours -/
theorem R.after (r : R K Z F env σ H) {H' F' : Hp} (sf : Same F F') (fh : Same F' H') (hk : Same H H') (fn : ∀ b o, H b = some o → F' b = F b) : R K Z F' env σ H' := by
  refine ⟨fh, r.f0.trans sf, fun b x e => ?_, fun b x e ne => hk b x (r.g b x e ne), fun b x e => ?_, r.xe, r.len, fun j d' e' => ?_, fun j x d' e2 e3 => ?_, r.ap⟩
  · obtain ⟨o', eo⟩ := r.gx b x e
    rw [fn b o' eo]
    exact r.nw b x e
  · obtain ⟨o', eo⟩ := r.gx b x e
    exact ⟨o', hk b o' eo⟩
  · obtain ⟨v, e4, q4⟩ := r.vl j d' e'
    exact ⟨v, e4, q4.mono sf⟩
  · obtain ⟨b, e4, q4, n4, z4⟩ := r.ow j x d' e2 e3
    obtain ⟨ob, hob⟩ := q4.some
    exact ⟨b, e4, (q4.mono sf).at fun o e => hk b o e, by rw [fn b ob hob]; exact n4, z4⟩
end
end BT
namespace BT
open PySem PySem.Spec PyProof.Rows L2
section
variable {K : PySem.W.Frag} {Z : Ent} {F F0 F' H H' : Hp} {env : Env} {σ : L2.St}
/-! ## what a step hands on -/
def isL : D → Bool
  | .list _ => true
  | _ => false
/-- a value handed on: fr: a list is new, no place holds it -/
def Val (K : PySem.W.Frag) (Z : Ent) (F : Hp) (env : Env) (σ : L2.St) (H : Hp) (fr : Bool) (d : D) (v : V) : Prop :=
  if (fr && isL d) = true then ∃ a, v = .ref a ∧ Fresh K Z F env σ H d a else Rep K F d v
theorem Val.ff {d : D} {v : V} : Val K Z F env σ H false d v = Rep K F d v := if_neg (by simp)
def OutV (K : PySem.W.Frag) (F H : Hp) (d : D) (Q : VK) : Prop :=
  (∀ v, isL d = false → Rep K F d v → Q v H) ∧ (∀ p ds vs, d = .list ds → H p = none → vs.length ≤ sizeLine → Reps K F ds vs → Q (.ref p) (upd H p (.lst vs))) ∧
    (∀ p o ds vs, d = .tuple ds → H p = none → vs.length ≤ sizeLine → o.dict = none → o.cls = .type "tuple" → Reps K F ds vs → Q (.ref p) (upd H p (.frz o (.tup vs))))
def kP (K : PySem.W.Frag) (fr : Bool) (Q : VK) (Z : Ent) (F : Hp) (σ : L2.St) : D → Env → Prop := fun d env => ∀ F' H' v, Same F F' → R K Z F' env σ H' → Val K Z F' env σ H' fr d v → Q v H'
theorem out_of {fr : Bool} {Q : VK} {d : D} (r : R K Z F env σ H) (s : Same F0 F) (h : kP K fr Q Z F0 σ d env) : OutV K F H d Q := by
  refine ⟨fun v n q => ?_, fun p ds vs e hp z q => ?_, fun p o ds vs e hp z hd hcl q => ?_⟩
  · refine h F H v s r ?_
    unfold Val
    rw [n, Bool.and_false, if_neg Bool.false_ne_true]
    exact q
  · subst e
    cases fr with
    | true =>
      obtain ⟨r1, f⟩ := r.newOwn hp z q
      refine h F _ (.ref p) s r1 ?_
      unfold Val
      rw [if_pos (show (true && isL (PyData.list ds)) = true from rfl)]
      exact ⟨p, rfl, f⟩
    | false =>
      refine h _ _ (.ref p) (s.trans (r.sameNew hp)) (r.new (o := .lst vs) hp) ?_
      rw [Val.ff]
      exact .lst ⟨z, .inl upd_same⟩ (q.mono (r.sameNew hp))
  · subst e
    refine h _ _ (.ref p) (s.trans (r.sameNew hp)) (r.new (o := .frz o (.tup vs)) hp) ?_
    unfold Val
    rw [show isL (PyData.tuple ds) = false from rfl, Bool.and_false, if_neg Bool.false_ne_true]
    exact .tup ⟨z, .inl ⟨o, upd_same, hd, hcl⟩⟩ (q.mono (r.sameNew hp))
/-! ## reading now -/
theorem RepT.dp (s : Same F H) {d : D} {v : V} (h : RepT K F H d v) : Dp K H v d := by
  cases h with
  | rep h => exact (h.mono s).dp
  | own h =>
    cases d with
    | list ds => obtain ⟨vs, e, z, r⟩ := h; exact .lst (.inl (.inl e)) (r.mono s).dp
    | _ => exact h.elim
theorem RepT.list (s : Same F H) {ds : List D} {v : V} (h : RepT K F H (.list ds) v) : ∃ a xs, v = .ref a ∧ LstAt K H a xs ∧ Reps K F ds xs := by
  cases h with
  | rep h => cases h with | lst h r => exact ⟨_, _, rfl, h.mono s, r⟩
  | own h => obtain ⟨vs, e, z, r⟩ := h; exact ⟨_, _, rfl, ⟨z, .inl e⟩, r⟩
theorem RepT.tuple {ds : List D} {v : V} (h : RepT K F H (.tuple ds) v) : ∃ a xs, v = .ref a ∧ TupAt K F a xs ∧ Reps K F ds xs := by
  cases h with
  | rep h => cases h with | tup h r => exact ⟨_, _, rfl, h, r⟩
  | own h => exact h.elim
theorem RepT.int {i : Int} {v : V} (h : RepT K F H (.int i) v) : v = .int i := by
  cases h with
  | rep h => cases h; rfl
  | own h => exact h.elim
theorem RepT.bl {i : Bool} {v : V} (h : RepT K F H (.bool i) v) : v = .bl i := by
  cases h with
  | rep h => cases h; rfl
  | own h => exact h.elim
theorem RepT.str {i : Str} {v : V} (h : RepT K F H (.str i) v) : v = .str i := by
  cases h with
  | rep h => cases h; rfl
  | own h => exact h.elim
theorem Rep.int_ {i : Int} {v : V} (h : Rep K F (.int i) v) : v = .int i := by cases h; rfl
theorem Rep.bl_ {i : Bool} {v : V} (h : Rep K F (.bool i) v) : v = .bl i := by cases h; rfl
/-- a sequence read now -/
inductive SqAt (K : PySem.W.Frag) (F H : Hp) (ds : List D) : V → Prop
  | l {a : Addr} {xs : List V} : LstAt K H a xs → Reps K F ds xs → SqAt K F H ds (.ref a)
  | t {a : Addr} {xs : List V} : TupAt K F a xs → Reps K F ds xs → SqAt K F H ds (.ref a)
theorem items_list {x : D} {ds : List D} (h : items? x = some ds) : x = .list ds ∨ x = .tuple ds := by
  cases x <;> simp [items?] at h
  · exact .inl (by rw [h])
  · exact .inr (by rw [h])
theorem RepT.sq (s : Same F H) {x : D} {ds : List D} {v : V} (h : RepT K F H x v) (e : items? x = some ds) : SqAt K F H ds v := by
  rcases items_list e with rfl | rfl
  · obtain ⟨a, xs, rfl, h, r⟩ := h.list s; exact .l h r
  · obtain ⟨a, xs, rfl, h, r⟩ := h.tuple; exact .t h r
theorem int?_eq {x : D} {i : Int} (h : int? x = some i) : x = .int i := by
  cases x <;> simp [int?] at h
  rw [h]
end

section
variable {X : Cx} {pins : List (Addr × Obj)} {σ : L2.St} {H F : Hp} {s : Shared}
theorem big_le : big ≤ sizeLine := by rw [sizeLine_eq]; decide
/-- a new tuple, its object known -/
theorem tupNew {xs : List V} {its : List Value} {Q : VK} (I : Inv X pins σ H s) (r : Vals xs its) (z : xs.length ≤ sizeLine) (t : Nat)
    (q : ∀ p o, H p = none → o.dict = none → o.cls = .type "tuple" → Q (.ref p) (upd H p (.frz o (.tup xs)))) :
    EP X pins σ Q (.ref s.heap.objs.size) { s with heap := s.heap.push { cls := .type "tuple", data := .seq its.toArray }, toks := t } := by
  refine ⟨.ref s.heap.objs.size, _, I.laid (t' := t) (o := .frz { cls := .type "tuple", data := .seq its.toArray } (.tup xs)) (fun b ob q => Heap.get?_push_of_some _ q) (Nat.le_refl _) ?_, rfl, q _ _ (I.hok.fresh (Nat.le_refl _)) rfl rfl⟩
  exact ⟨Heap.get?_push_size _ rfl, z, its, r, IsTup.new _ _⟩
theorem lstNew {xs : List V} {its : List Value} {Q : VK} (I : Inv X pins σ H s) (r : Vals xs its) (z : xs.length ≤ sizeLine) (t : Nat)
    (q : ∀ p, H p = none → Q (.ref p) (upd H p (.lst xs))) :
    EP X pins σ Q (.ref s.heap.objs.size) { s with heap := s.heap.push { cls := .type "list", data := .seq its.toArray }, toks := t } :=
  ⟨.ref _, _, I.lnew r z, rfl, q _ I.fresh⟩
open PySem.AutoSeq1 PySem.SeqAt in
theorem list_add_any (l : Addr) (items : Array Value) (n : Nat) (dd : Option Addr) (sl : Array (Option Value)) (b : Addr) (items2 : Array Value) (n2 : Nat) (dd2 : Option Addr) (sl2 : Array (Option Value)) (hc0 : items.size + items2.size ≤ sizeLine) :
    Meets (Builtin.«list.__add__» ⟨[.ref l, .ref b], []⟩) (fun _ R s => s.heap.get? l = some { cls := .type "list", dict := dd, data := .seq items n, slots := sl } ∧ s.heap.get? b = some { cls := .type "list", dict := dd2, data := .seq items2 n2, slots := sl2 } ∧ R (.ok (.ret (Value.ref s.heap.objs.size))) { s with heap := s.heap.push { cls := Value.type "list", data := Data.seq (items ++ items2) }, toks := s.toks }) :=
  .of_wp fun prog w A R s h => by
    obtain ⟨hp, g, d, tk, os⟩ := s
    obtain ⟨hl, hb, h⟩ := h
    have f1 := PySem.AutoSeq1.idx_int
    have f2 := PySem.AutoSeq1.sub_tuple_tuple
    have f3 := PySem.AutoSeq1.sub_list_list
    have f4 := PySem.AutoSeq1.sub_tuple_list
    have f5 := PySem.AutoSeq1.sub_list_tuple
    wp_walk using wpAny_loadPart' hl, wpAny_loadPart' hb
    exact ⟨_, rfl, h⟩
theorem op_addL {a b : Addr} {xs ys : List V} {Q : VK} (I : Inv X pins σ H s) (ha : SqL X.K H a xs) (hb : SqL X.K H b ys) (z : xs.length + ys.length ≤ sizeLine)
    (q : ∀ p, H p = none → Q (.ref p) (upd H p (.lst (xs ++ ys)))) : wpAny (model X.prog X.w) X.A (binaryOp .Add (.ref a) (.ref b)) (EP X pins σ Q) X.xe s := by
  obtain ⟨its, r1, ⟨⟨cls, dd, data, sl⟩, n, ho, hc, hd, hs⟩, _⟩ := I.list ha
  obtain ⟨its2, r2, ⟨⟨cls2, dd2, data2, sl2⟩, n2, ho2, hc2, hd2, hs2⟩, _⟩ := I.list hb
  simp only at hc hd hs hc2 hd2 hs2
  subst hc hs hc2 hs2
  refine PySem.concat_meets ⟨_, ho, rfl⟩ ⟨_, ho2, rfl⟩ noFill_list_add seq_list_add PySem.F.slot_list_add PySem.F.entry_list_add (PySem.F.args_list_add_2 _ _)
    (list_add_any a its.toArray n dd sl b its2.toArray n2 dd2 sl2 (by rw [List.size_toArray, List.size_toArray, ← r1.length, ← r2.length]; exact z)) ⟨ho, ho2, ?_⟩
  rw [show its.toArray ++ its2.toArray = (its ++ its2).toArray by simp]
  exact lstNew I (r1.append r2) (by rw [List.length_append]; exact z) s.toks q
end
end BT
namespace BT
open PySem PySem.Spec PyProof.Rows L2
section
variable {K : PySem.W.Frag} {F H : Hp}
theorem LstAt.same (s : Same F H) {a : Addr} {xs : List V} (h : LstAt K F a xs) : LstAt K H a xs := h.mono s
theorem rgOne (n : Int) (h : smallR n = true) : RgOk 0 n := by
  unfold smallR at h
  have := of_decide_eq_true h
  exact ⟨by omega, by omega, by omega, by omega, by omega⟩
end
section
variable {X : Cx}
def rB (K : PySem.W.Frag) (op : Operator) : R2 := fun x y H Q => ∃ F dx dy d, Same F H ∧ RepT K F H dx x ∧ RepT K F H dy y ∧ dbin op dx dy = some d ∧ OutV K F H d Q
theorem flat_len {α : Type} (k : Nat) (xs : List α) : (List.replicate k xs).flatten.length = k * xs.length := by
  induction k with
  | zero => simp
  | succ n ih => rw [List.replicate_succ, List.flatten_cons, List.length_append, ih, Nat.succ_mul, Nat.add_comm]
theorem rep_small {α : Type} {k : Int} {xs : List α} (h : 0 ≤ k ∧ k ≤ 1000 ∧ xs.length ≤ 1000) : (List.replicate k.toNat xs).flatten.length ≤ sizeLine := by
  rw [flat_len, sizeLine_eq]
  have a1 : k.toNat * xs.length ≤ 1000 * 1000 := Nat.mul_le_mul (by omega) h.2.2
  omega
open PySem.AutoSeq1 PySem.SeqAt in
theorem list_mul_any (l : Addr) (items : Array Value) (n : Nat) (dd : Option Addr) (sl : Array (Option Value)) (x : Int) (u : Tok) (hc0 : ¬(!Builtin.List.listFitsIndex x) = true) (hc1 : ¬items.size * x.toNat > (2 ^ 63 - 1) / 8) (hc2 : ¬Builtin.List.listTooLong (items.size * x.toNat) = true) :
    Meets (Builtin.«list.__mul__» ⟨[.ref l, .int x u], []⟩) (fun _ R s => s.heap.get? l = some { cls := .type "list", dict := dd, data := .seq items n, slots := sl } ∧
      R (.ok (.ret (Value.ref s.heap.objs.size))) { s with heap := s.heap.push { cls := Value.type "list", data := Data.seq (List.foldl (fun x1 x2 => x1 ++ x2) #[] (List.replicate (if items.isEmpty = true then 0 else x.toNat) items)) }, toks := s.toks }) :=
  .of_wp fun prog w A R s h => by
    obtain ⟨hp, g, d, tk, os⟩ := s
    obtain ⟨hl, h⟩ := h
    have hsz := PySem.AutoListH.joined_fits hc2
    wp_walk
    refine wpAny_ite_false (decide_eq_false (Nat.not_lt.mpr hsz)) ?_
    wp_walk
    exact ⟨_, rfl, h⟩
theorem int_rmul_any (a : Int) (t : Tok) (l : Addr) (items : Array Value) (n : Nat) (dd : Option Addr) (sl : Array (Option Value)) :
    Meets (Builtin.«int.__rmul__» ⟨[.int a t, .ref l], []⟩) (fun _ R s => s.heap.get? l = some { cls := .type "list", dict := dd, data := .seq items n, slots := sl } ∧ R (.ok (.ret Value.notImplemented)) s) :=
  .of_wp fun prog w A R s h => by
    obtain ⟨hp, g, d, tk, os⟩ := s
    obtain ⟨hl, h⟩ := h
    wp_walk
    exact ⟨_, rfl, h⟩
theorem op_mulL {a : Addr} {xs : List V} {k : Int} {t : Tok} {pins : List (Addr × Obj)} {s : Shared} {σ : L2.St} {H : Hp} {Q : VK} (I : Inv X pins σ H s) (ha : SqL X.K H a xs) (h : 0 ≤ k ∧ k ≤ 1000 ∧ xs.length ≤ 1000)
    (q : ∀ p, H p = none → Q (.ref p) (upd H p (.lst (List.replicate k.toNat xs).flatten))) : wpAny (model X.prog X.w) X.A (binaryOp .Mult (.ref a) (.int k t)) (EP X pins σ Q) X.xe s := by
  obtain ⟨its, r1, ⟨⟨cls, dd, data, sl⟩, n, ho, hc, hd, hs⟩, _⟩ := I.list ha
  simp only at hc hd hs
  subst hc hs
  have hz := rep_small h
  rw [flat_len] at hz
  have hlen : its.toArray.size * k.toNat ≤ sizeLine := by
    rw [List.size_toArray, ← r1.length, Nat.mul_comm]
    exact hz
  have hcap : ¬ its.toArray.size * k.toNat > (2 ^ 63 - 1) / 8 := by
    have : (sizeLine : Nat) ≤ (2 ^ 63 - 1) / 8 := by decide
    omega
  have hfit : ¬ (!Builtin.List.listFitsIndex k) = true := by
    rw [fitsIndex_both (by omega) (by omega)]
    exact Bool.false_ne_true
  have hlong : ¬ Builtin.List.listTooLong (its.toArray.size * k.toNat) = true := by
    rw [notLongL hlen]
    exact Bool.false_ne_true
  have hnew : List.foldl (fun x1 x2 => x1 ++ x2) #[] (List.replicate (if its.toArray.isEmpty = true then 0 else k.toNat) its.toArray) = (List.replicate k.toNat its).flatten.toArray := by
    rw [size_rep]
    cases its with
    | nil => simp
    | cons a r' => rw [if_neg (by simp)]
  refine wpAny_binaryOp_repeat_ref (T := "list") (U := "int") (by decide) ⟨_, ho, rfl⟩ (fun s' => typeIs_int s' k t) noFill_list_mul F.fills_int_mul F.slot_int_rmul repeat_list F.slot_int_index.lookup
    (call_meets F.slot_int_rmul (typeIs_int s k t) F.entry_int_rmul (F.args_int_rmul_2 _ _) (int_rmul_any k t a its.toArray n dd sl)
      ⟨ho, rfl, ⟨_, ho, rfl⟩, call_meets F.slot_list_mul ⟨_, ho, rfl⟩ F.entry_list_mul (F.args_list_mul_2 _ _) (list_mul_any a its.toArray n dd sl k t hfit hcap hlong) ⟨ho, ?_⟩⟩)
  rw [hnew]
  exact lstNew I (r1.rep k.toNat) (rep_small h) s.toks q
theorem op_mulT {a : Addr} {xs : List V} {k : Int} {t : Tok} {pins : List (Addr × Obj)} {s : Shared} {σ : L2.St} {H : Hp} {Q : VK} (I : Inv X pins σ H s) (hT : SqT X.K H a xs) (h : 2 ≤ k ∧ k ≤ 1000 ∧ xs.length ≤ 1000) (hne : xs ≠ [])
    (q : ∀ p o, H p = none → o.dict = none → o.cls = .type "tuple" → Q (.ref p) (upd H p (.frz o (.tup (List.replicate k.toNat xs).flatten)))) : wpAny (model X.prog X.w) X.A (binaryOp .Mult (.ref a) (.int k t)) (EP X pins σ Q) X.xe s := by
  obtain ⟨its, r, ⟨⟨cls, dd, data, sl⟩, ho, hc, n, hd⟩, hs⟩ := I.tuple hT
  simp only at hc hd
  subst hc hd
  have hle : its.length = xs.length := r.length.symm
  have hn : its ≠ [] := fun e => hne (by
    rw [e] at hle
    exact List.eq_nil_of_length_eq_zero hle.symm)
  have hi : its.toArray.isEmpty = false := by
    cases its with
    | nil => exact absurd rfl hn
    | cons a b => rfl
  have hsz0 : its.toArray.size = xs.length := by rw [List.size_toArray, hle]
  have hz := rep_small (xs := xs) (k := k) ⟨by omega, h.2⟩
  have hm : ((its.toArray.size : Nat) : Int) * k ≤ 1000000 := by
    rw [hsz0]
    have a1 : ((xs.length : Nat) : Int) * k ≤ 1000 * k := Int.mul_le_mul_of_nonneg_right (by omega) (by omega)
    omega
  have flen : (List.replicate k.toNat its).flatten.length ≤ sizeLine := by
    rw [flat_len, hle, ← flat_len]
    exact hz
  have c0 : (decide (k < -(2 ^ 63)) || decide (k ≥ 2 ^ 63)) = false := by
    rw [decide_eq_false (by omega), decide_eq_false (by omega)] <;> rfl
  have c1 : (its.toArray.isEmpty || k == 1) = false := by
    rw [hi, Bool.false_or]
    exact beq_eq_false_iff_ne.mpr (by omega)
  have c2 : (decide (k ≤ 0) || its.toArray.isEmpty) = false := by
    rw [hi, Bool.or_false]
    exact decide_eq_false (by omega)
  have c4 : Builtin.Tuple.tupleTooMany (((its.toArray.size : Nat) : Int) * k) = false := by
    unfold Builtin.Tuple.tupleTooMany
    rw [sizeLine_eq]
    exact decide_eq_false (by omega)
  refine wpAny_binaryOp_repeat_ref (T := "tuple") (U := "int") (by decide) ⟨_, ho, rfl⟩ (fun s' => typeIs_int s' k t) noFill_tuple_mul F.fills_int_mul F.slot_int_rmul repeat_tuple F.slot_int_index.lookup
    (call_meets F.slot_int_rmul (typeIs_int s k t) F.entry_int_rmul (F.args_int_rmul_2 _ _) (int_rmul_tuple k t a its.toArray n dd sl)
      ⟨ho, rfl, ⟨_, ho, rfl⟩, call_meets F.slot_tuple_mul ⟨_, ho, rfl⟩ F.entry_tuple_mul (F.args_tuple_mul_2 _ _) (tuple_mulW a its.toArray n dd sl k t c0 c1 c2 (by omega) c4 (by rw [size_rep, List.size_toArray]; exact flen)) ⟨ho, ?_⟩⟩)
  rw [size_rep]
  exact tupNew I (r.rep k.toNat) hz s.toks q
theorem dvOk_pos {j : Int} (h : dvOk j = true) : 0 < j := by
  unfold dvOk at h
  rw [Bool.and_eq_true] at h
  exact of_decide_eq_true h.1
theorem mulOk_ok {i j : Int} (h : mulOk i j = true) : IntMulOk i j := by
  unfold mulOk at h
  rw [Bool.or_eq_true, Bool.or_eq_true, Bool.and_eq_true] at h
  rcases h with (h | h) | ⟨h1, h2⟩
  · have := of_decide_eq_true h
    exact CMul.ok (.inl ⟨by omega, by omega⟩)
  · have := of_decide_eq_true h
    exact CMul.ok (.inr ⟨by omega, by omega⟩)
  · have h1 := of_decide_eq_true h1
    have h2 := of_decide_eq_true h2
    exact CMulW.ok (show i.natAbs.log2 + j.natAbs.log2 < 1000000 by omega)
theorem out_int {K : PySem.W.Frag} {F H : Hp} {i : Int} {Q : VK} (o : OutV K F H (.int i) Q) : Q (.int i) H := o.1 _ rfl (.int i)
theorem op_bin (op : Operator) : OpR X (binaryOp op) (rB X.K op) := by
  intro pins s σ H x y v u Q I rx ry h
  obtain ⟨F, dx, dy, d, sf, hx, hy, e, o⟩ := h
  cases op with
  | Add =>
    cases dx with
    | int i =>
      cases dy with
      | int j =>
        simp only [dbin, Option.some.injEq] at e
        subst e
        cases hx.int
        cases hy.int
        exact op_add pins s σ H _ _ _ _ Q I rx ry ⟨i, j, rfl, rfl, out_int o⟩
      | _ => cases e
    | list xs =>
      cases dy with
      | list ys =>
        simp only [dbin] at e
        split at e
        · rename_i hz
          cases e
          obtain ⟨a, vs, rfl, ha, ra⟩ := hx.list sf
          obtain ⟨b, ws, rfl, hb, rb⟩ := hy.list sf
          cases rx
          cases ry
          have hz : (xs ++ ys).length ≤ big := of_decide_eq_true hz
          rw [List.length_append, ← ra.length, ← rb.length] at hz
          have hz := Nat.le_trans hz big_le
          exact op_addL I ha.sq hb.sq hz fun p hp => o.2.1 p _ _ rfl hp (by rw [List.length_append]; exact hz) (ra.append rb)
        · cases e
      | _ => cases e
    | tuple xs =>
      cases dy with
      | tuple ys =>
        simp only [dbin] at e
        split at e
        · rename_i hz
          cases e
          obtain ⟨a, vs, rfl, ha, ra⟩ := hx.tuple
          obtain ⟨b, ws, rfl, hb, rb⟩ := hy.tuple
          have hz : (xs ++ ys).length ≤ big := of_decide_eq_true hz
          rw [List.length_append, ← ra.length, ← rb.length] at hz
          have hz := Nat.le_trans hz big_le
          cases rx
          cases ry
          obtain ⟨its, r1, p1, z1⟩ := I.tuple (ha.mono sf).sq
          obtain ⟨its2, r2, p2, z2⟩ := I.tuple (hb.mono sf).sq
          by_cases h1 : vs = []
          · subst h1
            cases ra
            cases r1
            exact cat_tup0 p1 p2 ⟨.ref b, H, I, rfl, o.1 _ rfl (.tup hb rb)⟩
          · have g1 : its ≠ [] := fun z => h1 (r1.nil_iff.mp z)
            refine HT.cat_tup p1 p2 g1 (fun z => ?_) (fun z => ?_) (by rw [← r1.length, ← r2.length]; exact hz)
            · have h2 := r2.nil_iff.mp z
              subst h2
              cases rb
              refine ⟨.ref a, H, I, rfl, o.1 _ rfl ?_⟩
              rw [List.append_nil]
              exact .tup ha ra
            · exact tupNew I (r1.append r2) (by rw [List.length_append]; exact hz) s.toks fun p ob hp hd hcl => o.2.2 p ob _ _ rfl hp (by rw [List.length_append]; exact hz) hd hcl (ra.append rb)
        · cases e
      | _ => cases e
    | _ => cases e
  | Sub =>
    cases dx with
    | int i =>
      cases dy with
      | int j =>
        simp only [dbin, Option.some.injEq] at e
        subst e
        cases hx.int
        cases hy.int
        exact op_sub pins s σ H _ _ _ _ Q I rx ry ⟨i, j, rfl, rfl, out_int o⟩
      | _ => cases e
    | _ => cases e
  | Mult =>
    cases dx with
    | int i =>
      cases dy with
      | int j =>
        simp only [dbin] at e
        split at e
        · rename_i hz
          cases e
          cases hx.int
          cases hy.int
          obtain ⟨t, rfl⟩ := rx
          obtain ⟨t', rfl⟩ := ry
          exact mul_int ⟨.int _, H, I.tok _, ⟨_, rfl⟩, out_int o⟩ (mulOk_ok hz)
        · cases e
      | _ => cases e
    | list xs =>
      cases dy with
      | int j =>
        simp only [dbin] at e
        split at e
        · rename_i hz
          cases e
          have hz := of_decide_eq_true hz
          obtain ⟨a, vs, rfl, ha, ra⟩ := hx.list sf
          cases hy.int
          cases rx
          obtain ⟨t', rfl⟩ := ry
          rw [← ra.length] at hz
          exact op_mulL I ha.sq hz fun p hp => o.2.1 p _ _ rfl hp (rep_small hz) (ra.rep _)
        · cases e
      | _ => cases e
    | tuple xs =>
      cases dy with
      | int j =>
        simp only [dbin] at e
        split at e
        · rename_i hz
          cases e
          have hz := of_decide_eq_true hz
          obtain ⟨a, vs, rfl, ha, ra⟩ := hx.tuple
          cases hy.int
          cases rx
          obtain ⟨t', rfl⟩ := ry
          rw [← ra.length] at hz
          exact op_mulT I (ha.mono sf).sq ⟨hz.1, hz.2.1, hz.2.2.1⟩ (fun z => hz.2.2.2 (by rw [z]; rfl)) fun p ob hp hd hcl => o.2.2 p ob _ _ rfl hp (rep_small ⟨by omega, hz.2.1, hz.2.2.1⟩) hd hcl (ra.rep _)
        · cases e
      | _ => cases e
    | _ => cases e
  | FloorDiv =>
    cases dx with
    | int i =>
      cases dy with
      | int j =>
        simp only [dbin] at e
        split at e
        · rename_i hz
          cases e
          cases hx.int
          cases hy.int
          have hp := dvOk_pos hz
          unfold dvOk at hz
          rw [Bool.and_eq_true, Bool.or_eq_true] at hz
          rcases hz.2 with h2 | h2
          · exact op_fdiv pins s σ H _ _ _ _ Q I rx ry ⟨i, j, rfl, rfl, ⟨hp, of_decide_eq_true h2⟩, out_int o⟩
          · exact op_fdivW pins s σ H _ _ _ _ Q I rx ry ⟨i, j, rfl, rfl, ⟨hp, of_decide_eq_true h2⟩, out_int o⟩
        · cases e
      | _ => cases e
    | _ => cases e
  | Mod =>
    cases dx with
    | int i =>
      cases dy with
      | int j =>
        simp only [dbin] at e
        split at e
        · rename_i hz
          cases e
          cases hx.int
          cases hy.int
          exact op_mod pins s σ H _ _ _ _ Q I rx ry ⟨i, j, rfl, rfl, of_decide_eq_true hz, out_int o⟩
        · cases e
      | _ => cases e
    | _ => cases e
  | Pow =>
    cases dx with
    | int i =>
      cases dy with
      | int j =>
        simp only [dbin] at e
        split at e
        · rename_i hz
          cases e
          cases hx.int
          cases hy.int
          have hz := of_decide_eq_true hz
          exact op_pow pins s σ H _ _ _ _ Q I rx ry ⟨i, j, rfl, rfl, ⟨hz.1, hz.2.1, hz.2.2⟩, out_int o⟩
        · cases e
      | _ => cases e
    | _ => cases e
  | _ => cases e

/-! ### comparisons -/
def rC (K : PySem.W.Frag) (op : CmpOp) : R2 := fun x y H Q => ∃ F dx dy b, Same F H ∧ RepT K F H dx x ∧ RepT K F H dy y ∧ dcmp op dx dy = some b ∧ Q (.bl b) H
theorem dp_list {K : PySem.W.Frag} {F H : Hp} {ds : List D} {v : V} (h : SqAt K F H ds v) (sf : Same F H) : Dp K H v (.list ds) ∨ Dp K H v (.tuple ds) := by
  cases h with
  | l h r => exact .inl (.lst h.sq (r.mono sf).dp)
  | t h r => exact .inr (.tup (h.mono sf).sq (r.mono sf).dp)
theorem in_any {pins : List (Addr × Obj)} {s : Shared} {σ : L2.St} {H F : Hp} {x y : V} {v u : Value} {Q : VK} (hu : X.A.units + 64 < cLine) (I : Inv X pins σ H s) (rx : RelV x v) (ry : RelV y u) {dx : D} {ds : List D}
    (sf : Same F H) (hx : RepT X.K F H dx x) (hy : SqAt X.K F H ds y) (ok : okIn dx ds = true) (neg : Bool) (q : Q (.bl (if neg = true then !ds.any fun d => PyData.eqv d dx else ds.any fun d => PyData.eqv d dx)) H) :
    wpAny (model X.prog X.w) X.A (compareOp (if neg = true then .NotIn else .In) v u) (EP X pins σ Q) X.xe s := by
  obtain ⟨as, r1⟩ := Dp.reads I dx x v (hx.dp sf) rx
  unfold okIn at ok
  simp only [Bool.and_eq_true, decide_eq_true_eq] at ok
  obtain ⟨⟨⟨p1, p2⟩, d1⟩, d2⟩ := ok
  have hu2 : X.A.units + 1 + min (PyData.depthAll ds) dx.depth < cLine := by omega
  rcases dp_list hy sf with d | d
  · obtain ⟨bs, r2⟩ := Dp.reads I _ y u d ry
    cases neg with
    | true => exact PySem.SeqAt.notIn_list_data r2 r1 p2 p1 hu2 ⟨.bl _, H, I, rfl, q⟩
    | false => exact PySem.SeqAt.in_list_data r2 r1 p2 p1 hu2 ⟨.bl _, H, I, rfl, q⟩
  · obtain ⟨bs, r2⟩ := Dp.reads I _ y u d ry
    cases neg with
    | true => exact PySem.SeqAt.notIn_tuple_data r2 r1 p2 p1 hu2 ⟨.bl _, H, I, rfl, q⟩
    | false => exact PySem.SeqAt.in_tuple_data r2 r1 p2 p1 hu2 ⟨.bl _, H, I, rfl, q⟩
theorem op_cmp (hu : X.A.units + 64 < cLine) (op : CmpOp) : OpR X (compareOp op) (rC X.K op) := by
  intro pins s σ H x y v u Q I rx ry h
  obtain ⟨F, dx, dy, b, sf, hx, hy, e, q⟩ := h
  cases op with
  | Eq =>
    simp only [dcmp] at e
    split at e
    · rename_i ok
      cases e
      unfold okEq at ok
      simp only [Bool.and_eq_true, decide_eq_true_eq] at ok
      obtain ⟨as, r1⟩ := Dp.reads I dx x v (hx.dp sf) rx
      obtain ⟨bs, r2⟩ := Dp.reads I dy y u (hy.dp sf) ry
      exact PySem.SeqAt.eq_plain r1 r2 ok.1.1.1 ok.1.1.2 (by omega) ⟨.bl _, H, I, rfl, q⟩
    · cases e
  | NotEq =>
    simp only [dcmp] at e
    split at e
    · rename_i ok
      cases e
      unfold okEq at ok
      simp only [Bool.and_eq_true, decide_eq_true_eq] at ok
      obtain ⟨as, r1⟩ := Dp.reads I dx x v (hx.dp sf) rx
      obtain ⟨bs, r2⟩ := Dp.reads I dy y u (hy.dp sf) ry
      exact PySem.SeqAt.ne_plain r1 r2 ok.1.1.1 ok.1.1.2 (by omega) ⟨.bl _, H, I, rfl, q⟩
    · cases e
  | Lt =>
    cases dx with
    | int i =>
      cases dy with
      | int j =>
        cases e
        cases hx.int
        cases hy.int
        exact op_lt pins s σ H _ _ _ _ Q I rx ry ⟨i, j, rfl, rfl, q⟩
      | _ => cases e
    | _ => cases e
  | LtE =>
    cases dx with
    | int i =>
      cases dy with
      | int j =>
        cases e
        cases hx.int
        cases hy.int
        exact op_le pins s σ H _ _ _ _ Q I rx ry ⟨i, j, rfl, rfl, q⟩
      | _ => cases e
    | _ => cases e
  | Gt =>
    cases dx with
    | int i =>
      cases dy with
      | int j =>
        cases e
        cases hx.int
        cases hy.int
        exact op_gt pins s σ H _ _ _ _ Q I rx ry ⟨i, j, rfl, rfl, q⟩
      | _ => cases e
    | _ => cases e
  | GtE =>
    cases dx with
    | int i =>
      cases dy with
      | int j =>
        cases e
        cases hx.int
        cases hy.int
        exact op_ge pins s σ H _ _ _ _ Q I rx ry ⟨i, j, rfl, rfl, q⟩
      | _ => cases e
    | _ => cases e
  | In =>
    simp only [dcmp] at e
    cases hi : items? dy with
    | none => rw [hi] at e; cases e
    | some ds =>
      rw [hi, Option.bind_some] at e
      split at e
      · rename_i ok
        cases e
        exact in_any hu I rx ry sf hx (hy.sq sf hi) ok false q
      · cases e
  | NotIn =>
    simp only [dcmp] at e
    cases hi : items? dy with
    | none => rw [hi] at e; cases e
    | some ds =>
      rw [hi, Option.bind_some] at e
      split at e
      · rename_i ok
        cases e
        exact in_any hu I rx ry sf hx (hy.sq sf hi) ok true q
      · cases e
  | _ => cases e
end
end BT
namespace BT
open PySem PySem.Spec PyProof.Rows L2
section
variable {prog : Program} {w : World} {A : Around} {E : Value → Shared → Prop} {s : Shared}
theorem collect_tup {l : Addr} {vs : List Value} {Q : List Value → Shared → Prop} (hl : s.heap.IsTuple l vs.toArray)
    (h : Q vs { s with heap := (s.heap.push (seqObj "list" #[] 0)).update s.heap.objs.size (Obj.mapSeq (· ++ vs.toArray)) }) (hsz : vs.length ≤ sizeLine) :
    wpAny (model prog w) A (collect (.ref l)) Q E s := by
  obtain ⟨o, ho, hc, n, hd⟩ := id hl
  have ho' : (s.heap.push (seqObj "list" #[] 0)).get? l = some o := Heap.get?_push_of_some _ ho
  unfold collect
  refine wpAny_bind (wpAny_runValue (codeAny_builtin entry_proto_collect' (wpAny_bind (wpAny_newList (wpAny_pure ⟨Code.quiet_builtin _ (by decide +kernel), codeAny_builtin entry_list_iadd' ?_⟩)))))
  show wpAny _ _ (Builtin.List.listExtendWith (.ref s.heap.objs.size) (.ref l) (.ref s.heap.objs.size)) _ _ { s with heap := s.heap.push (seqObj "list" #[] 0) }
  unfold Builtin.List.listExtendWith
  refine wpAny_bind (wpAny_typeOf (T := "tuple") ⟨o, ho', hc⟩ ?_)
  rw [if_pos (by rw [show (Value.type "tuple" == Value.type "tuple") = true from rfl]; simp)]
  refine wpAny_bind (listItems_at ho' hd (wpAny_bind (listItems_at (xs := #[]) (n := 0) (Heap.get?_push_size _ rfl) rfl ?_)))
  rw [if_neg (by simp)]
  refine wpAny_bind (listUpdate_at (xs := #[]) (n := 0) (Heap.get?_push_size _ rfl) rfl (wpAny_pure ?_) (Nat.zero_le _) (by show (#[] ++ vs.toArray).size ≤ sizeLine + 1; simp only [Array.size_append, List.size_toArray, List.length_nil]; omega))
  refine wpAny_bind (wpAny_load (get?_update_seq (Heap.get?_push_size _ rfl) _) ?_)
  show wpAny _ _ (pure ((#[] : Array Value) ++ vs.toArray).toList) Q E _
  rw [show ((#[] : Array Value) ++ vs.toArray).toList = vs by simp]
  exact wpAny_pure h
open SrtO in
theorem sorted_tup {l : Addr} {vs : List Value} {ltv : Value → Value → Bool} {Q : Value → Shared → Prop} (O : Swo ltv) (hl : s.heap.IsTuple l vs.toArray) (hz : vs.length ≤ sizeLine)
    (hS : 2 ≤ vs.length → ∀ (h₁ : Heap) (a : Addr), h₁.get? a = some (seqObj "list" vs.toArray 0) → SortableO prog w A.in1.in1 { s with heap := h₁ } a vs ltv)
    (h : ∀ out : List Value, Srtd ltv out → Stb ltv out vs → Q (.ref (s.heap.objs.size + 1)) { s with heap := sortedAll s.heap vs out.toArray }) :
    wpAny (model prog w) A (call (.builtin "sorted") [.ref l]) Q E s := by
  refine Calls.call_function_entry kind_sorted plain_sorted entry_sorted (args_sorted1 _) ?_
  unfold Builtin.«sorted»
  refine wpAny_bind (m := checkCount "sorted" 1 1 _) (wpAny_pure (wpAny_bind (collect_tup hl (wpAny_bind (wpAny_newList ?_ hz)) hz)))
  have hsz : ((s.heap.push (seqObj "list" #[] 0)).update s.heap.objs.size (Obj.mapSeq (· ++ vs.toArray))).objs.size = s.heap.objs.size + 1 := by
    rw [Heap.size_update, size_push']
  have hoL : (((s.heap.push (seqObj "list" #[] 0)).update s.heap.objs.size (Obj.mapSeq (· ++ vs.toArray))).push (seqObj "list" vs.toArray 0)).get? (s.heap.objs.size + 1) = some (seqObj "list" vs.toArray 0) := by
    rw [← hsz]
    exact Heap.get?_push_size _ rfl
  show wpAny _ _ _ _ _ { s with heap := ((s.heap.push (seqObj "list" #[] 0)).update s.heap.objs.size (Obj.mapSeq (· ++ vs.toArray))).push (seqObj "list" vs.toArray 0) }
  rw [hsz]
  exact wpAny_bind (wpAny_holding (wpAny_call_entry slot_list_sort ⟨_, hoL, rfl⟩ entry_list_sort (list_sort_ord O hoL hz (fun h2 => hS h2 _ _ hoL) fun out hs hb => ⟨_, rfl, wpAny_pure ⟨_, rfl, h out hs hb⟩⟩) (args_list_sort _)))
end
theorem sorted_unique : ∀ {a b : List Int}, a.Perm b → a.Pairwise (· ≤ ·) → b.Pairwise (· ≤ ·) → a = b := fun p h1 h2 =>
  List.Perm.eq_of_pairwise (fun x y _ _ h h' => Int.le_antisymm h h') h1 h2 p
theorem sortI_perm (ns : List Int) : (sortI ns).Perm ns := List.mergeSort_perm _ _
theorem sortI_sorted (ns : List Int) : (sortI ns).Pairwise (· ≤ ·) :=
  (List.pairwise_mergeSort (le := fun a b : Int => decide (a ≤ b)) (fun a b c h1 h2 => by
    simp only [decide_eq_true_eq] at *
    omega) (fun a b => by
    simp only [Bool.or_eq_true, decide_eq_true_eq]
    omega) ns).imp fun h => of_decide_eq_true h
theorem sortI_of {a ns : List Int} (p : a.Perm ns) (h : a.Pairwise (· ≤ ·)) : a = sortI ns := sorted_unique (p.trans (sortI_perm ns).symm) h (sortI_sorted ns)
theorem foldl_min : ∀ (xs : List Int) (x : Int), xs.foldl (fun a b => if b < a then b else a) x ∈ x :: xs ∧ ∀ y ∈ x :: xs, xs.foldl (fun a b => if b < a then b else a) x ≤ y
  | [], x => ⟨List.mem_cons_self, fun y h => by simp at h; subst h; exact Int.le_refl _⟩
  | y :: ys, x => by
    rw [List.foldl_cons]
    have a1 : (if y < x then y else x) ≤ x := by split <;> omega
    have a2 : (if y < x then y else x) ≤ y := by split <;> omega
    have a3 : (if y < x then y else x) ∈ x :: y :: ys := by split <;> simp
    generalize (if y < x then y else x) = m at a1 a2 a3
    obtain ⟨h1, h2⟩ := foldl_min ys m
    have h3 := h2 _ List.mem_cons_self
    refine ⟨?_, fun z hz => ?_⟩
    · rcases List.mem_cons.mp h1 with e | h1
      · rw [e]; exact a3
      · exact List.mem_cons_of_mem _ (List.mem_cons_of_mem _ h1)
    · rcases List.mem_cons.mp hz with rfl | hz
      · exact Int.le_trans h3 a1
      · rcases List.mem_cons.mp hz with rfl | hz
        · exact Int.le_trans h3 a2
        · exact h2 z (List.mem_cons_of_mem _ hz)
theorem foldl_max : ∀ (xs : List Int) (x : Int), xs.foldl (fun a b => if b > a then b else a) x ∈ x :: xs ∧ ∀ y ∈ x :: xs, y ≤ xs.foldl (fun a b => if b > a then b else a) x
  | [], x => ⟨List.mem_cons_self, fun y h => by simp at h; subst h; exact Int.le_refl _⟩
  | y :: ys, x => by
    rw [List.foldl_cons]
    have a1 : x ≤ (if y > x then y else x) := by split <;> omega
    have a2 : y ≤ (if y > x then y else x) := by split <;> omega
    have a3 : (if y > x then y else x) ∈ x :: y :: ys := by split <;> simp
    generalize (if y > x then y else x) = m at a1 a2 a3
    obtain ⟨h1, h2⟩ := foldl_max ys m
    have h3 := h2 _ List.mem_cons_self
    refine ⟨?_, fun z hz => ?_⟩
    · rcases List.mem_cons.mp h1 with e | h1
      · rw [e]; exact a3
      · exact List.mem_cons_of_mem _ (List.mem_cons_of_mem _ h1)
    · rcases List.mem_cons.mp hz with rfl | hz
      · exact Int.le_trans a1 h3
      · rcases List.mem_cons.mp hz with rfl | hz
        · exact Int.le_trans a2 h3
        · exact h2 z (List.mem_cons_of_mem _ hz)
theorem minI_of {ns : List Int} {i m : Int} (h : minI ns = some i) (h1 : m ∈ ns) (h2 : ∀ y ∈ ns, m ≤ y) : m = i := by
  cases ns with
  | nil => cases h
  | cons x xs =>
    obtain ⟨g1, g2⟩ := foldl_min xs x
    have e : xs.foldl (fun a b => if b < a then b else a) x = i := Option.some.inj h
    rw [e] at g1 g2
    exact Int.le_antisymm (h2 _ g1) (g2 _ h1)
theorem maxI_of {ns : List Int} {i m : Int} (h : maxI ns = some i) (h1 : m ∈ ns) (h2 : ∀ y ∈ ns, y ≤ m) : m = i := by
  cases ns with
  | nil => cases h
  | cons x xs =>
    obtain ⟨g1, g2⟩ := foldl_max xs x
    have e : xs.foldl (fun a b => if b > a then b else a) x = i := Option.some.inj h
    rw [e] at g1 g2
    exact Int.le_antisymm (g2 _ h1) (h2 _ g1)
section
variable {X : Cx}
/-! ### built-in functions of one argument -/
def rPr (K : PySem.W.Frag) (p : Pr) : List V → Hp → VK → Prop := fun vs H Q => ∃ F dx v d, vs = [v] ∧ Same F H ∧ RepT K F H dx v ∧ dpr p dx = some d ∧ OutV K F H d Q
theorem map_none {α β : Type} {o : Option α} {f : α → β} {b : β} (h : o.map f = some b) : ∃ a, o = some a ∧ f a = b := by
  cases o with
  | none => cases h
  | some a => exact ⟨a, rfl, Option.some.inj h⟩
theorem bind_none {α β : Type} {o : Option α} {f : α → Option β} {b : β} (h : o.bind f = some b) : ∃ a, o = some a ∧ f a = some b := by
  cases o with
  | none => cases h
  | some a => exact ⟨a, rfl, h⟩
theorem pr_len : CallR X (.builtin "len") (rPr X.K .len) := by
  intro pins s σ H xs us Q I r h
  obtain ⟨F, dx, v, d, rfl, sf, hx, e, o⟩ := h
  cases dx with
  | list ds =>
    obtain ⟨a, vs, rfl, ha, ra⟩ := hx.list sf
    cases e
    refine call_len_seq pins s σ H _ us Q I r ⟨a, vs, rfl, .inl ha.sq, ?_⟩
    rw [ra.length]
    exact out_int o
  | tuple ds =>
    obtain ⟨a, vs, rfl, ha, ra⟩ := hx.tuple
    cases e
    refine call_len_seq pins s σ H _ us Q I r ⟨a, vs, rfl, .inr (ha.mono sf).sq, ?_⟩
    rw [ra.length]
    exact out_int o
  | str z =>
    cases hx.str
    simp only [dpr] at e
    split at e
    · rename_i hz
      cases e
      exact call_len_str pins s σ H _ us Q I r ⟨z, rfl, by rw [sizeLine_eq]; have := of_decide_eq_true hz; omega, out_int o⟩
    · cases e
  | _ => cases e
theorem pr_abs : CallR X (.builtin "abs") (rPr X.K .abs) := by
  intro pins s σ H xs us Q I r h
  obtain ⟨F, dx, v, d, rfl, sf, hx, e, o⟩ := h
  cases dx with
  | int i =>
    cases hx.int
    cases e
    exact call_abs pins s σ H _ us Q I r ⟨i, rfl, out_int o⟩
  | _ => cases e
theorem pr_int : CallR X (.type "int") (rPr X.K .int) := by
  intro pins s σ H xs us Q I r h
  obtain ⟨F, dx, v, d, rfl, sf, hx, e, o⟩ := h
  cases dx with
  | int i =>
    cases hx.int
    cases e
    exact call_int1 pins s σ H _ us Q I r (.inl ⟨i, rfl, out_int o⟩)
  | bool b =>
    cases hx.bl
    cases e
    exact call_int1 pins s σ H _ us Q I r (.inr ⟨b, rfl, out_int o⟩)
  | _ => cases e
theorem pr_sum (hc : X.calm = true) : CallR X (.builtin "sum") (rPr X.K .sum) := by
  intro pins s σ H xs us Q I r h
  obtain ⟨F, dx, v, d, rfl, sf, hx, e, o⟩ := h
  cases dx with
  | list ds =>
    obtain ⟨ns, e1, rfl⟩ := map_none e
    obtain ⟨a, vs, rfl, ha, ra⟩ := hx.list sf
    rw [ints?_eq e1] at ra
    rw [ra.ofInts] at ha
    exact cr_sum hc pins s σ H _ us Q I r ⟨a, ns, rfl, ha.sq, out_int o⟩
  | _ => cases e
theorem pr_all (hc : X.calm = true) : CallR X (.builtin "all") (rPr X.K .all) := by
  intro pins s σ H xs us Q I r h
  obtain ⟨F, dx, v, d, rfl, sf, hx, e, o⟩ := h
  cases dx with
  | list ds =>
    obtain ⟨ns, e1, rfl⟩ := map_none e
    obtain ⟨a, vs, rfl, ha, ra⟩ := hx.list sf
    rw [bools?_eq e1] at ra
    rw [ra.ofBools] at ha
    exact cr_all hc pins s σ H _ us Q I r ⟨a, ns, rfl, ha.sq, o.1 _ rfl (.bl _)⟩
  | _ => cases e
theorem pr_any (hc : X.calm = true) : CallR X (.builtin "any") (rPr X.K .any) := by
  intro pins s σ H xs us Q I r h
  obtain ⟨F, dx, v, d, rfl, sf, hx, e, o⟩ := h
  cases dx with
  | list ds =>
    obtain ⟨ns, e1, rfl⟩ := map_none e
    obtain ⟨a, vs, rfl, ha, ra⟩ := hx.list sf
    rw [bools?_eq e1] at ra
    rw [ra.ofBools] at ha
    exact cr_any hc pins s σ H _ us Q I r ⟨a, ns, rfl, ha.sq, o.1 _ rfl (.bl _)⟩
  | _ => cases e
theorem pos_of_min {ns : List Int} {i : Int} (h : minI ns = some i) : 0 < ns.length := by
  cases ns with
  | nil => cases h
  | cons x xs => simp
theorem pos_of_max {ns : List Int} {i : Int} (h : maxI ns = some i) : 0 < ns.length := by
  cases ns with
  | nil => cases h
  | cons x xs => simp
theorem pr_min (hc : X.calm = true) : CallR X (.builtin "min") (rPr X.K .min) := by
  intro pins s σ H xs us Q I r h
  obtain ⟨F, dx, v, d, rfl, sf, hx, e, o⟩ := h
  cases dx with
  | list ds =>
    obtain ⟨ns, e1, e2⟩ := bind_none e
    obtain ⟨i, e3, rfl⟩ := map_none e2
    obtain ⟨a, vs, rfl, ha, ra⟩ := hx.list sf
    rw [ints?_eq e1] at ra
    rw [ra.ofInts] at ha
    exact cr_min hc pins s σ H _ us Q I r ⟨a, ns, rfl, ha.sq, pos_of_min e3, fun m h1 h2 => by rw [minI_of e3 h1 h2]; exact out_int o⟩
  | _ => cases e
theorem pr_max (hc : X.calm = true) : CallR X (.builtin "max") (rPr X.K .max) := by
  intro pins s σ H xs us Q I r h
  obtain ⟨F, dx, v, d, rfl, sf, hx, e, o⟩ := h
  cases dx with
  | list ds =>
    obtain ⟨ns, e1, e2⟩ := bind_none e
    obtain ⟨i, e3, rfl⟩ := map_none e2
    obtain ⟨a, vs, rfl, ha, ra⟩ := hx.list sf
    rw [ints?_eq e1] at ra
    rw [ra.ofInts] at ha
    exact cr_max hc pins s σ H _ us Q I r ⟨a, ns, rfl, ha.sq, pos_of_max e3, fun m h1 h2 => by rw [maxI_of e3 h1 h2]; exact out_int o⟩
  | _ => cases e
theorem pr_sorted : CallR X (.builtin "sorted") (rPr X.K .sorted) := by
  intro pins s σ H xs us Q I r h
  obtain ⟨F, dx, v, d, rfl, sf, hx, e, o⟩ := h
  obtain ⟨ds, e0, e⟩ := bind_none e
  obtain ⟨ns, e1, rfl⟩ := map_none e
  rw [ints?_eq e1] at e0
  have fin : ∀ (p : Addr), H p = none → ∀ z : ns.length ≤ sizeLine, Q (.ref p) (upd H p (.lst ((sortI ns).map V.int))) := fun p hp z =>
    o.2.1 p _ _ rfl hp (by rw [List.length_map, (sortI_perm ns).length_eq]; exact z) Reps.ints
  cases hx.sq sf e0 with
  | l ha ra =>
    rw [ra.ofInts] at ha
    refine cr_sortedI pins s σ H _ us Q I r ⟨_, ns, rfl, ha.sq, fun ns' p p1 p2 hp => ?_⟩
    rw [sortI_of p1 p2]
    exact fin p hp (by have := ha.1; rwa [List.length_map] at this)
  | t ha ra =>
    rw [ra.ofInts] at ha
    obtain ⟨its, rv, hl, hz⟩ := I.tuple (ha.mono sf).sq
    rw [Vals.ref1 r]
    have hi := rv.ints
    have hz' : ns.length ≤ sizeLine := by have := ha.1; rwa [List.length_map] at this
    refine sorted_tup SrtO.swo_int (show s.heap.IsTuple _ its.toArray from hl) (by rw [← rv.length]; exact hz) (fun h2 h₁ a' _ => SrtO.ints_sortable hi h2) fun out h1 h2 => ?_
    obtain ⟨k1, k2, k3⟩ := SrtO.ints_out hi h1 h2
    obtain ⟨ep, he'⟩ := PyProof.Rows.sortedAll_at s.heap its out.toArray
    have hlen : ((out.map SrtO.iv).map V.int).length ≤ sizeLine := by
      rw [List.length_map, k2.length_eq]
      exact hz'
    have q := fin (s.heap.objs.size + 1) (I.hok.fresh (Nat.le_succ _)) hz'
    rw [← sortI_of k2 k3] at q
    exact ⟨.ref _, upd H (s.heap.objs.size + 1) (.lst ((out.map SrtO.iv).map V.int)), I.laid (t' := s.toks) (fun _ _ => PyProof.Rows.sortedAll_old) (Nat.le_succ _) ⟨hlen, out, ep, vals_of_ints k1, he'⟩, rfl, q⟩
theorem pr_list : CallR X (.type "list") (rPr X.K .list) := by
  intro pins s σ H xs us Q I r h
  obtain ⟨F, dx, v, d, rfl, sf, hx, e, o⟩ := h
  obtain ⟨ds, e0, rfl⟩ := map_none e
  cases hx.sq sf e0 with
  | l ha ra => exact call_list_of pins s σ H _ us Q I r ⟨_, _, rfl, .inl ha.sq, fun l hl => o.2.1 l _ _ rfl hl ha.1 ra⟩
  | t ha ra => exact call_list_of pins s σ H _ us Q I r ⟨_, _, rfl, .inr (ha.mono sf).sq, fun l hl => o.2.1 l _ _ rfl hl ha.1 ra⟩
theorem pr_tuple : CallR X (.type "tuple") (rPr X.K .tuple) := by
  intro pins s σ H xs us Q I r h
  obtain ⟨F, dx, v, d, rfl, sf, hx, e, o⟩ := h
  obtain ⟨ds, e0, rfl⟩ := map_none e
  cases hx.sq sf e0 with
  | l ha ra =>
    obtain ⟨u, rfl, ru⟩ := vals1 r
    cases ru
    obtain ⟨its, rv, pl, hz⟩ := I.list ha.sq
    refine call_tuple_list pl.isList (fun h' hk => ?_) (by rw [List.size_toArray, ← rv.length]; exact hz)
    have I1 : Inv X pins σ H { s with heap := h' } := I.kept (t' := s.toks) hk
    exact tupNew I1 rv hz s.toks fun p ob hp hd hcl => o.2.2 p ob _ _ rfl hp hz hd hcl ra
  | t ha ra =>
    obtain ⟨u, rfl, ru⟩ := vals1 r
    cases ru
    obtain ⟨its, rv, pl, hz⟩ := I.tuple (ha.mono sf).sq
    exact call_tuple_tup pl ⟨.ref _, H, I, rfl, o.1 _ rfl (.tup ha ra)⟩
/-! ### an item, a part -/
theorem atD_get {K : PySem.W.Frag} {F : Hp} {ds : List D} {vs : List V} (r : Reps K F ds vs) {i : Int} {d : D} (h : atD ds i = some d) : ∃ v, atI vs i = some v ∧ Rep K F d v := by
  unfold atD at h
  unfold atI ixN
  rw [r.length]
  split at h
  · rename_i h0
    split at h
    · rename_i h1
      rw [if_pos h0, if_pos h1, Option.bind_some]
      exact r.get h
    · cases h
  · rename_i h0
    split at h
    · rename_i h1
      rw [if_neg h0, if_pos h1, Option.bind_some]
      exact r.get h
    · cases h
def rIxD (K : PySem.W.Frag) : R2 := fun x y H Q => ∃ F dx dy d, Same F H ∧ RepT K F H dx x ∧ RepT K F H dy y ∧ dix dx dy = some d ∧ ∀ v, Rep K F d v → Q v H
theorem ix_D : IxR X (rIxD X.K) := by
  intro value slice pins s σ H x y v u Q I rx ry h hs
  obtain ⟨F, dx, dy, d, sf, hx, hy, e, q⟩ := h
  obtain ⟨ds, e0, e⟩ := bind_none e
  obtain ⟨i, e1, e⟩ := bind_none e
  cases int?_eq e1
  cases hy.int
  cases hx.sq sf e0 with
  | l ha ra =>
    obtain ⟨z, hz, rz⟩ := atD_get ra e
    exact ix_list value slice pins s σ H _ _ v u Q I rx ry ⟨_, _, i, z, rfl, rfl, ha.sq, hz, q z rz⟩ hs
  | t ha ra =>
    obtain ⟨z, hz, rz⟩ := atD_get ra e
    exact ix_tup value slice pins s σ H _ _ v u Q I rx ry ⟨_, _, i, z, rfl, rfl, (ha.mono sf).sq, hz, q z rz⟩ hs
theorem sIx_eq (n d : Nat) (o : Option Int) : HT.sIx n d o = sIx n d o := by
  cases o with
  | none => rfl
  | some i =>
    unfold HT.sIx sIx
    by_cases h : i < 0
    · simp only [if_pos h, if_neg (show ¬ 0 ≤ i by omega)]
    · simp only [if_neg h, if_pos (show 0 ≤ i by omega)]
theorem cut_eq {K : PySem.W.Frag} {F : Hp} {ds : List D} {vs : List V} (r : Reps K F ds vs) (lo hi : Option Int) : Reps K F (cutD ds lo hi) (cutV vs lo hi) := by
  unfold cutD cutV
  rw [sIx_eq, sIx_eq, r.length]
  exact (r.drop _).take _
def rSlD (K : PySem.W.Frag) : V → Option Int → Option Int → Hp → VK → Prop := fun x lo hi H Q => ∃ F dx d, Same F H ∧ RepT K F H dx x ∧ dsl dx lo hi = some d ∧ OutV K F H d Q
theorem sl_D : SlR X (rSlD X.K) := by
  intro pins s σ H x v vl vu lo hi sl Q I rx hs pl pu h
  obtain ⟨F, dx, d, sf, hx, e, o⟩ := h
  cases dx with
  | list ds =>
    cases e
    obtain ⟨a, vs, rfl, ha, ra⟩ := hx.list sf
    exact sl_list pins s σ H _ v vl vu lo hi sl Q I rx hs pl pu ⟨a, vs, rfl, ha.sq, fun p hp => o.2.1 p _ _ rfl hp (Nat.le_trans (cutV_length _ _ _) ha.1) (cut_eq ra lo hi)⟩
  | tuple ds =>
    cases e
    obtain ⟨a, vs, rfl, ha, ra⟩ := hx.tuple
    cases rx
    obtain ⟨its, r, ht, hz⟩ := I.tuple (ha.mono sf).sq
    have hlen : its.toArray.size = vs.length := by rw [List.size_toArray]; exact r.length.symm
    by_cases hw : HT.sIx vs.length 0 lo = 0 ∧ HT.sIx vs.length vs.length hi = vs.length
    · refine ⟨"tuple", _, PyProof.Rows.slot_tuple_getitem.lookup, ht.typeIs, getItem_tuple_whole ht hs pl pu (by rw [hlen]; exact hw) ⟨.ref a, H, I, rfl, o.1 _ rfl (.tup ha ?_)⟩⟩
      have c := cut_eq ra lo hi
      have e2 : cutV vs lo hi = vs := by
        unfold cutV
        rw [hw.1, hw.2, List.drop_zero, Nat.sub_zero, List.take_length]
      rw [e2] at c
      exact c
    · refine ⟨"tuple", _, PyProof.Rows.slot_tuple_getitem.lookup, ht.typeIs, HT.getItem_tuple_cut ht hs pl pu (by rw [hlen]; exact hw) ?_ (by rw [hlen]; exact hz)⟩
      rw [hlen]
      exact tupNew I ((r.drop (HT.sIx vs.length 0 lo)).take (HT.sIx vs.length vs.length hi - HT.sIx vs.length 0 lo)) (Nat.le_trans (cutV_length vs lo hi) hz) s.toks
        fun p ob hp hd hcl => o.2.2 p ob _ _ rfl hp (Nat.le_trans (cutV_length vs lo hi) hz) hd hcl (cut_eq ra lo hi)
  | _ => cases e
/-! ### isinstance -/
def tyN : D → String
  | .none => "NoneType"
  | .bool _ => "bool"
  | .int _ => "int"
  | .str _ => "str"
  | .list _ => "list"
  | .tuple _ => "tuple"
  | .dict _ => "dict"
def tyS : Ty → String
  | .bool => "bool"
  | .int => "int"
  | .str => "str"
  | .list => "list"
  | .tuple => "tuple"
theorem tyX_of {K : PySem.W.Frag} {F H : Hp} (sf : Same F H) {d : D} {v : V} (h : RepT K F H d v) : TyX K H v (.type (tyN d)) := by
  cases h with
  | rep h =>
    cases h with
    | non => exact .base .non
    | bl b => exact .base (.bl b)
    | int i => exact .base (.int i)
    | str x => exact .base (.str x)
    | lst h r =>
      rcases (h.mono sf).2 with e | ⟨o, e⟩ | ⟨o, its, n, e, c, _⟩
      · exact .base (.lst e)
      · exact .base (.frz e)
      · exact .kList e c
    | tup h r =>
      rcases (h.mono sf).2 with ⟨o, e, _⟩ | ⟨o, its, n, e, c, _⟩
      · exact .fTuple e
      · exact .kTuple e c
  | own h =>
    cases d with
    | list ds => obtain ⟨vs, e, _⟩ := h; exact .base (.lst e)
    | _ => exact h.elim
theorem kit_tyN (d : D) (t : Ty) : kitB (tyN d) (tyS t) = some (isTy d t) := by
  cases d <;> cases t <;> (first | rfl | decide +kernel)
def rIsiD (K : PySem.W.Frag) (ts : List Ty) : List V → Hp → VK → Prop := fun vs H Q => ∃ F dx x c, vs = [x, c] ∧ Same F H ∧ RepT K F H dx x ∧
  ((∃ t, ts = [t] ∧ c = .ty (tyS t)) ∨ ∃ tp, c = .ref tp ∧ H tp = some (.tup (ts.map fun t => V.ty (tyS t)))) ∧ Q (.bl (ts.any (isTy dx))) H
theorem kitAny_D {K : PySem.W.Frag} (d : D) : ∀ ts : List Ty, PySem.W.kitAny K (.type (tyN d)) (ts.map fun t => Value.type (tyS t)) = some (ts.any (isTy d))
  | [] => kitAny_nil
  | t :: ts => by
    rw [List.map_cons, List.any_cons]
    refine kitAny_cons (b := isTy d t) (kit_ty (kit_tyN d t)) (fun e => ?_) (fun e => ?_)
    · rw [e, Bool.false_or]; exact kitAny_D d ts
    · rw [e, Bool.true_or]
theorem clsv_D : ∀ ts : List Ty, Paired ClsV (ts.map fun t => V.ty (tyS t)) (ts.map fun t => Value.type (tyS t))
  | [] => .nil
  | t :: ts => .cons (.ty _) (clsv_D ts)
theorem pr_isi (ts : List Ty) : CallR X (.builtin "isinstance") (rIsiD X.K ts) := by
  intro pins s σ H xs us Q I r h
  obtain ⟨F, dx, x, c, rfl, sf, hx, ht, q⟩ := h
  rcases ht with ⟨t, rfl, rfl⟩ | ⟨tp, rfl, ht⟩
  · refine call_isi pins s σ H _ us Q I r ⟨x, _, _, _, _, rfl, .ty _, tyX_of sf hx, kit_ty (kit_tyN dx t), ?_⟩
    rw [List.any_cons, List.any_nil, Bool.or_false] at q
    exact q
  · exact call_isiT pins s σ H _ us Q I r ⟨x, tp, _, _, _, _, rfl, ht, clsv_D ts, tyX_of sf hx, kitAny_D dx ts, q⟩
end
end BT
namespace BT
open PySem PySem.Spec PyProof.Rows L2
/-! ## readings -/
abbrev WX := String → Hp → Prop
def Okr {α : Type} (r : Res α) (k : α → Env → Prop) (w : String → Env → Prop) : Prop :=
  match r with
  | .ok a e => k a e
  | .exc c e => w c e
  | .stuck => False
section
variable (K : PySem.W.Frag) (W : WX)
def kX (Z : Ent) (F : Hp) (σ : L2.St) : String → Env → Prop := fun c env => ∀ F' H', Same F F' → R K Z F' env σ H' → W c H'
def tP (fr : Bool) (m : Env → Res D) : TE := fun σ H Q => ∃ Z F env, R K Z F env σ H ∧ Okr (m env) (kP K fr Q Z F σ) (kX K W Z F σ)
def kT (Q : Bool → Hp → Prop) (Z : Ent) (F : Hp) (σ : L2.St) : D → Env → Prop := fun d env => ∃ b, d = .bool b ∧ ∀ F' H', Same F F' → R K Z F' env σ H' → Q b H'
def tT (m : Env → Res D) : TT := fun σ H Q => ∃ Z F env, R K Z F env σ H ∧ Okr (m env) (kT K Q Z F σ) (kX K W Z F σ)
/-- an operand: a place's object is read when all operands have come -/
def OpV (a : IE) (F : Hp) (σ : L2.St) (d : D) (v : V) : Prop :=
  match a with
  | .b i => σ[i]? = some (some v)
  | _ => Rep K F d v
def kO (a : IE) (Q : VK) (Z : Ent) (F : Hp) (σ : L2.St) : D → Env → Prop := fun d env => ∀ F' H' v, Same F F' → R K Z F' env σ H' → OpV K a F' σ d v → Q v H'
def tO (a : IE) (m : Env → Res D) : TE := fun σ H Q => ∃ Z F env, R K Z F env σ H ∧ Okr (m env) (kO K a Q Z F σ) (kX K W Z F σ)
def kA (Q : List V → Hp → Prop) (Z : Ent) (F : Hp) (σ : L2.St) : List D → Env → Prop := fun ds env => ∀ F' H' vs, Same F F' → R K Z F' env σ H' → Reps K F' ds vs → Q vs H'
def tAs (m : Env → Res (List D)) : TA := fun σ H Q => ∃ Z F env, R K Z F env σ H ∧ Okr (m env) (kA K Q Z F σ) (kX K W Z F σ)
end
theorem PE.imp {X : Cx} {e : Expr} {t t' : TE} (h : PE X e t) (i : ∀ σ H Q, t' σ H Q → t σ H Q) : PE X e t' := ⟨fun pins s σ H Q I q => h.run pins s σ H Q I (i σ H Q q)⟩
theorem PT.imp {X : Cx} {e : Expr} {t t' : TT} (h : PT X e t) (i : ∀ σ H Q, t' σ H Q → t σ H Q) : PT X e t' := ⟨fun pins s σ H Q I q => h.run pins s σ H Q I (i σ H Q q)⟩
theorem PW.imp {X : Cx} {e : Expr} {t t' : TT} (h : PW X e t) (i : ∀ σ H Q, t' σ H Q → t σ H Q) : PW X e t' := ⟨fun wh pins s σ H Q I q => h.run wh pins s σ H Q I (i σ H Q q)⟩
theorem PA.imp {X : Cx} {es : List Expr} {t t' : TA} (h : PA X es t) (i : ∀ σ H Q, t' σ H Q → t σ H Q) : PA X es t' := ⟨fun p pins s σ H Q I q => h.run p pins s σ H Q I (i σ H Q q)⟩
theorem PS.imp {X : Cx} {st : Stmt} {t t' : TS} (h : PS X st t) (i : ∀ D σ H, t' D σ H → t D σ H) : PS X st t' := ⟨fun pins s σ H D I q => h.run pins s σ H D I (i D σ H q)⟩
theorem PSs.imp {X : Cx} {st : List Stmt} {t t' : TS} (h : PSs X st t) (i : ∀ D σ H, t' D σ H → t D σ H) : PSs X st t' := ⟨fun pins s σ H D I q => h.run pins s σ H D I (i D σ H q)⟩
section
variable {K : PySem.W.Frag} {W : WX} {Z : Ent} {F F' H H' : Hp} {env : Env} {σ : L2.St}
theorem kX.mono {c : String} {e : Env} (h : kX K W Z F σ c e) (s : Same F F') : kX K W Z F' σ c e := fun F2 H2 s2 r => h F2 H2 (s.trans s2) r
theorem kP.mono {fr : Bool} {Q : VK} {d : D} {e : Env} (h : kP K fr Q Z F σ d e) (s : Same F F') : kP K fr Q Z F' σ d e := fun F2 H2 v s2 r => h F2 H2 v (s.trans s2) r
theorem OpV.mono {a : IE} {d : D} {v : V} (h : OpV K a F σ d v) (s : Same F F') : OpV K a F' σ d v := by
  unfold OpV at h ⊢
  split at h
  · exact h
  · exact Rep.mono s h
theorem rd_repT (r : R K Z F env σ H) {i : Nat} {d : D} {v : V} (h : rd env i = some d) (e : σ[i]? = some (some v)) : RepT K F H d v := by
  unfold rd at h
  cases hx : slot env i with
  | no => rw [hx] at h; cases h
  | val d' =>
    rw [hx] at h
    cases h
    obtain ⟨v', e1, q⟩ := r.vl i d (slot_get hx fun z => nomatch z)
    rw [e] at e1; cases e1
    exact .rep q
  | own d' =>
    rw [hx] at h
    cases h
    obtain ⟨a, e1, q, _⟩ := r.ow i _ d (slot_get hx fun z => nomatch z) rfl
    rw [e] at e1; cases e1
    exact .own q
  | inp d' =>
    rw [hx] at h
    cases h
    obtain ⟨a, e1, q, _⟩ := r.ow i _ d (slot_get hx fun z => nomatch z) rfl
    rw [e] at e1; cases e1
    exact .own q
/-- the operand when all have come -/
theorem OpV.late {a : IE} {d d' : D} {v : V} (h : OpV K a F σ d v) (s : Same F F') (r : R K Z F' env σ H) (e : rr a d env = some d') : RepT K F' H d' v := by
  unfold OpV at h
  unfold rr at e
  split at h
  · exact rd_repT r e h
  · split at e
    · rename_i i _ hn
      exact absurd rfl (hn _)
    · cases e
      exact .rep (Rep.mono s h)
/-- the last operand -/
theorem OpV.now {C : Calls} {a : IE} {d : D} {v : V} {e0 : Env} (h : OpV K a F σ d v) (r : R K Z F env σ H) (e : ev C a e0 = .ok d env) : RepT K F H d v := by
  unfold OpV at h
  split at h
  · rename_i i
    simp only [ev, ofO] at e
    split at e
    · rename_i d2 hd
      cases e
      exact rd_repT r hd h
    · cases e
  · exact .rep h
theorem rd_some (r : R K Z F env σ H) {i : Nat} {d : D} (h : rd env i = some d) : ∃ v, σ[i]? = some (some v) := by
  unfold rd at h
  cases hx : slot env i with
  | no => rw [hx] at h; cases h
  | val d' =>
    obtain ⟨v', e1, q⟩ := r.vl i d' (slot_get hx fun z => nomatch z)
    exact ⟨_, e1⟩
  | own d' =>
    obtain ⟨a, e1, q, _⟩ := r.ow i _ d' (slot_get hx fun z => nomatch z) rfl
    exact ⟨_, e1⟩
  | inp d' =>
    obtain ⟨a, e1, q, _⟩ := r.ow i _ d' (slot_get hx fun z => nomatch z) rfl
    exact ⟨_, e1⟩
end

/-! ## expressions, one by one -/
section
variable {X : Cx} {C : Calls} {W : WX} {a b c e : Expr} {a' b' c' : IE} {pos : Pos}
abbrev EV (X : Cx) (C : Calls) (W : WX) (fr : Bool) (a : IE) : TE := tP X.K W fr (ev C a)
abbrev EO (X : Cx) (C : Calls) (W : WX) (a : IE) : TE := tO X.K W a (ev C a)
theorem pe_k {d : D} {v : V} (h : PE X e (tC v)) (r : ∀ F : Hp, Rep X.K F d v) (n : isL d = false) : PE X e (EV X C W false (.k d)) := by
  refine PE.imp h fun σ H Q ⟨Z, F, env, r1, h⟩ => ?_
  exact h F H v (Same.refl F) r1 (by rw [Val.ff]; exact r F)
theorem pe_v {i : Nat} (h : PE X e (tVar i)) : PE X e (EV X C W false (.v i)) := by
  refine PE.imp h fun σ H Q ⟨Z, F, env, r1, h⟩ => ?_
  simp only [ev] at h
  split at h
  · rename_i d hs
    obtain ⟨v, e1, q⟩ := r1.vl i d (slot_get hs fun z => nomatch z)
    exact ⟨v, e1, h F H v (Same.refl F) r1 (by rw [Val.ff]; exact q)⟩
  · rename_i d hs
    obtain ⟨v, F', e1, r2, sf, q⟩ := r1.take hs
    exact ⟨v, e1, h F' H v sf r2 (by rw [Val.ff]; exact q)⟩
  · exact h.elim
theorem pe_b {i : Nat} (h : PE X e (tVar i)) : PE X e (EO X C W (.b i)) := by
  refine PE.imp h fun σ H Q ⟨Z, F, env, r1, h⟩ => ?_
  simp only [ev, ofO] at h
  split at h
  · rename_i d hd
    obtain ⟨v, e1⟩ := rd_some r1 hd
    exact ⟨v, e1, h F H v (Same.refl F) r1 e1⟩
  · exact h.elim
def isB : IE → Bool
  | .b _ => true
  | _ => false
/-- a value as an operand -/
theorem pe_o (h : PE X e (EV X C W false a')) (n : isB a' = false) : PE X e (EO X C W a') := by
  refine PE.imp h fun σ H Q ⟨Z, F, env, r1, h⟩ => ⟨Z, F, env, r1, ?_⟩
  cases hm : ev C a' env with
  | ok d e1 =>
    rw [hm] at h
    intro F' H' v s r q
    rw [Val.ff] at q
    refine h F' H' v s r ?_
    unfold OpV
    split
    · cases n
    · exact q
  | exc c e1 => rw [hm] at h; exact h
  | stuck => rw [hm] at h; exact h.elim
/-- two operands, then what they give -/
theorem two_o {σ : L2.St} {H : Hp} {Z : Ent} {F : Hp} {env : Env} {R' : V → V → Hp → Prop} {g : D → D → Env → Res D} {k : D → Env → Prop} (r : R X.K Z F env σ H)
    (h : Okr (match ev C a' env with | .ok x e1 => (match ev C b' e1 with | .ok y e2 => g x y e2 | .exc c e => .exc c e | .stuck => .stuck) | .exc c e => .exc c e | .stuck => .stuck) k (kX X.K W Z F σ))
    (fin : ∀ x y e1 e2 F1 F2 H2 v u, ev C a' env = .ok x e1 → ev C b' e1 = .ok y e2 → Okr (g x y e2) k (kX X.K W Z F σ) → Same F F1 → Same F1 F2 → R X.K Z F2 e2 σ H2 → OpV X.K a' F1 σ x v → OpV X.K b' F2 σ y u → R' v u H2) :
    EO X C W a' σ H fun v H1 => EO X C W b' σ H1 fun u H2 => R' v u H2 := by
  refine ⟨Z, F, env, r, ?_⟩
  cases hm : ev C a' env with
  | ok x e1 =>
    rw [hm] at h
    intro F1 H1 v s1 r1 q1
    refine ⟨Z, F1, e1, r1, ?_⟩
    simp only at h
    cases hm2 : ev C b' e1 with
    | ok y e2 =>
      rw [hm2] at h
      intro F2 H2 u s2 r2 q2
      exact fin x y e1 e2 F1 F2 H2 v u hm hm2 h s1 s2 r2 q1 q2
    | exc c e2 =>
      rw [hm2] at h
      exact kX.mono (F := F) h s1
    | stuck => rw [hm2] at h; exact h.elim
  | exc c e1 => rw [hm] at h; exact h
  | stuck => rw [hm] at h; exact h.elim
theorem okr_of {o : Option D} {e : Env} {k : D → Env → Prop} {w : String → Env → Prop} (h : Okr (ofO o e) k w) : ∃ d, o = some d ∧ k d e := by
  cases o with
  | none => exact h.elim
  | some d => exact ⟨d, rfl, h⟩
theorem res_eta {α : Type} (r : Res α) : (match r with | .ok a e => Res.ok a e | .exc c e => .exc c e | .stuck => .stuck) = r := by cases r <;> rfl
theorem pe_bin {op : Operator} {fr : Bool} (ha : PE X a (EO X C W a')) (hb : PE X b (EO X C W b')) : PE X (.BinOp a op b pos) (EV X C W fr (.bin op a' b')) := by
  refine PE.imp (pe_op (op_bin op) ha hb) fun σ H Q ⟨Z, F, env, r, h⟩ => ?_
  refine two_o (g := fun x y e2 => ofO ((rr a' x e2).bind fun x' => dbin op x' y) e2) (k := kP X.K fr Q Z F σ) r ?_ fun x y e1 e2 F1 F2 H2 v u m1 m2 h s1 s2 r2 q1 q2 => ?_
  · simp only [ev] at h
    cases h1 : ev C a' env with
    | ok x e1 =>
      rw [h1] at h
      simp only at h ⊢
      cases h2 : ev C b' e1 with
      | ok y e2 => rw [h2] at h; exact h
      | exc c e2 => rw [h2] at h; exact h
      | stuck => rw [h2] at h; exact h
    | exc c e1 => rw [h1] at h; exact h
    | stuck => rw [h1] at h; exact h
  · obtain ⟨d, e3, h⟩ := okr_of h
    obtain ⟨x', e4, e5⟩ := bind_none e3
    exact ⟨F2, x', y, d, r2.fh, q1.late s2 r2 e4, q2.now r2 m2, e5, out_of r2 (s1.trans s2) h⟩
theorem cmp_read {op : CmpOp} {σ : L2.St} {H : Hp} {Q : VK} {Z : Ent} {F : Hp} {env : Env} (r : R X.K Z F env σ H) (h : Okr (ev C (.cmp op a' b') env) (kP X.K false Q Z F σ) (kX X.K W Z F σ)) :
    tOp (rC X.K op) (EO X C W a') (EO X C W b') σ H Q := by
  refine two_o (g := fun x y e2 => ofO ((rr a' x e2).bind fun x' => (dcmp op x' y).map PyData.bool) e2) (k := kP X.K false Q Z F σ) r ?_ fun x y e1 e2 F1 F2 H2 v u m1 m2 h s1 s2 r2 q1 q2 => ?_
  · simp only [ev] at h
    cases h1 : ev C a' env with
    | ok x e1 =>
      rw [h1] at h
      simp only at h ⊢
      cases h2 : ev C b' e1 with
      | ok y e2 => rw [h2] at h; exact h
      | exc c e2 => rw [h2] at h; exact h
      | stuck => rw [h2] at h; exact h
    | exc c e1 => rw [h1] at h; exact h
    | stuck => rw [h1] at h; exact h
  · obtain ⟨d, e3, h⟩ := okr_of h
    obtain ⟨x', e4, e5⟩ := bind_none e3
    obtain ⟨t, e6, rfl⟩ := map_none e5
    exact ⟨F2, x', y, t, r2.fh, q1.late s2 r2 e4, q2.now r2 m2, e6, h F2 H2 _ (s1.trans s2) r2 (by rw [Val.ff]; exact .bl t)⟩
theorem pe_cm {op : CmpOp} (hu : X.A.units + 64 < cLine) (hm : behindInMarks op b = false) (ha : PE X a (EO X C W a')) (hb : PE X b (EO X C W b')) : PE X (.Compare a [op] [b] pos) (EV X C W false (.cmp op a' b')) :=
  PE.imp (pe_cmpR (op_cmp hu op) ha hb hm) fun _ _ _ ⟨_, _, _, r, h⟩ => cmp_read r h
/-- a test, whatever it is, from a value -/
theorem tt_of {t : TE} {m : Env → Res D} (h : ∀ σ H Q, tP X.K W false m σ H Q → t σ H Q) (σ : L2.St) (H : Hp) (Q : Bool → Hp → Prop) (q : tT X.K W m σ H Q) : tTest t σ H Q := by
  obtain ⟨Z, F, env, r, q⟩ := q
  refine h σ H _ ⟨Z, F, env, r, ?_⟩
  cases hm : m env with
  | ok d e1 =>
    rw [hm] at q
    obtain ⟨b, rfl, q⟩ := q
    intro F' H' v s r' w
    rw [Val.ff] at w
    cases w
    exact ⟨b, rfl, q F' H' s r'⟩
  | exc c e1 => rw [hm] at q; exact q
  | stuck => rw [hm] at q; exact q.elim
abbrev ET (X : Cx) (C : Calls) (W : WX) (a : IE) : TT := tT X.K W (ev C a)
theorem pt_cm {op : CmpOp} (hu : X.A.units + 64 < cLine) (hm : behindInMarks op b = false) (ha : PE X a (EO X C W a')) (hb : PE X b (EO X C W b')) : PT X (.Compare a [op] [b] pos) (ET X C W (.cmp op a' b')) :=
  PT.imp (pt_cmpR (op_cmp hu op) ha hb hm) (tt_of fun _ _ _ ⟨_, _, _, r, h⟩ => cmp_read r h)
theorem isn_read {σ : L2.St} {H : Hp} {Q : VK} {Z : Ent} {F : Hp} {env : Env} (r : R X.K Z F env σ H) (h : Okr (ev C (.isN a') env) (kP X.K false Q Z F σ) (kX X.K W Z F σ)) : tIsN (EO X C W a') σ H Q := by
  refine ⟨Z, F, env, r, ?_⟩
  simp only [ev] at h
  cases h1 : ev C a' env with
  | ok x e1 =>
    rw [h1] at h
    intro F' H' v s r' q
    have z : decide (v = V.non) = isNone x := by
      cases q.now r' h1 with
      | rep w => cases w <;> rfl
      | own w => cases x <;> first | rfl | exact w.elim
    rw [z]
    exact h F' H' _ s r' (by rw [Val.ff]; exact .bl _)
  | exc c e1 => rw [h1] at h; exact h
  | stuck => rw [h1] at h; exact h.elim
theorem notn_read {σ : L2.St} {H : Hp} {Q : VK} {Z : Ent} {F : Hp} {env : Env} (r : R X.K Z F env σ H) (h : Okr (ev C (.notN a') env) (kP X.K false Q Z F σ) (kX X.K W Z F σ)) : tNotN (EO X C W a') σ H Q := by
  refine ⟨Z, F, env, r, ?_⟩
  simp only [ev] at h
  cases h1 : ev C a' env with
  | ok x e1 =>
    rw [h1] at h
    intro F' H' v s r' q
    have z : (!decide (v = V.non)) = !isNone x := by
      cases q.now r' h1 with
      | rep w => cases w <;> rfl
      | own w => cases x <;> first | rfl | exact w.elim
    rw [z]
    exact h F' H' _ s r' (by rw [Val.ff]; exact .bl _)
  | exc c e1 => rw [h1] at h; exact h
  | stuck => rw [h1] at h; exact h.elim
theorem pe_isn {j pos'} (ha : PE X a (EO X C W a')) : PE X (.Compare a [.Is] [.Constant .none j pos'] pos) (EV X C W false (.isN a')) := PE.imp (pe_cmp (pc_isN ha) rfl) fun _ _ _ ⟨_, _, _, r, h⟩ => isn_read r h
theorem pe_notn {j pos'} (ha : PE X a (EO X C W a')) : PE X (.Compare a [.IsNot] [.Constant .none j pos'] pos) (EV X C W false (.notN a')) := PE.imp (pe_cmp (pc_notN ha) rfl) fun _ _ _ ⟨_, _, _, r, h⟩ => notn_read r h
theorem pt_isn {j pos'} (ha : PE X a (EO X C W a')) : PT X (.Compare a [.Is] [.Constant .none j pos'] pos) (ET X C W (.isN a')) := PT.imp (pt_cmp (pc_isN ha) rfl) (tt_of fun _ _ _ ⟨_, _, _, r, h⟩ => isn_read r h)
theorem pt_notn {j pos'} (ha : PE X a (EO X C W a')) : PT X (.Compare a [.IsNot] [.Constant .none j pos'] pos) (ET X C W (.notN a')) := PT.imp (pt_cmp (pc_notN ha) rfl) (tt_of fun _ _ _ ⟨_, _, _, r, h⟩ => notn_read r h)
/-! a < b < c -/
theorem chain_read {op op' : CmpOp} {σ : L2.St} {H : Hp} {Q : VK} {Z : Ent} {F : Hp} {env : Env} (r : R X.K Z F env σ H) (h : Okr (ev C (.cmp2 op op' a' b' c') env) (kP X.K false Q Z F σ) (kX X.K W Z F σ)) :
    tChain (rC X.K op) (rC X.K op') (EV X C W false a') (EV X C W false b') (EV X C W false c') σ H Q := by
  simp only [ev] at h
  refine ⟨Z, F, env, r, ?_⟩
  cases h1 : ev C a' env with
  | ok x e1 =>
    rw [h1] at h
    intro F1 H1 v s1 r1 q1
    rw [Val.ff] at q1
    refine ⟨Z, F1, e1, r1, ?_⟩
    simp only at h
    cases h2 : ev C b' e1 with
    | ok y e2 =>
      rw [h2] at h
      intro F2 H2 u s2 r2 q2
      rw [Val.ff] at q2
      simp only at h
      cases h3 : dcmp op x y with
      | none => rw [h3] at h; exact h.elim
      | some t =>
        rw [h3] at h
        refine ⟨F2, x, y, t, r2.fh, .rep (q1.mono s2), .rep q2, h3, t, rfl, ?_⟩
        cases t with
        | false =>
          rw [if_neg Bool.false_ne_true]
          exact h F2 H2 _ (s1.trans s2) r2 (by rw [Val.ff]; exact .bl _)
        | true =>
          rw [if_pos rfl]
          refine ⟨Z, F2, e2, r2, ?_⟩
          simp only at h
          cases h4 : ev C c' e2 with
          | ok z e3 =>
            rw [h4] at h
            intro F3 H3 w s3 r3 q3
            rw [Val.ff] at q3
            obtain ⟨d, e5, h⟩ := okr_of h
            obtain ⟨t', e6, rfl⟩ := map_none e5
            exact ⟨F3, y, z, t', r3.fh, .rep (q2.mono s3), .rep q3, e6, h F3 H3 _ ((s1.trans s2).trans s3) r3 (by rw [Val.ff]; exact .bl _)⟩
          | exc c e3 => rw [h4] at h; exact kX.mono (F := F) h (s1.trans s2)
          | stuck => rw [h4] at h; exact h.elim
    | exc c e2 => rw [h2] at h; exact kX.mono (F := F) h s1
    | stuck => rw [h2] at h; exact h.elim
  | exc c e1 => rw [h1] at h; exact h
  | stuck => rw [h1] at h; exact h.elim
theorem pe_ch {op op' : CmpOp} (hu : X.A.units + 64 < cLine) (hm : lastMarks [op, op'] [b, c] = false) (ha : PE X a (EV X C W false a')) (hb : PE X b (EV X C W false b')) (hc : PE X c (EV X C W false c')) :
    PE X (.Compare a [op, op'] [b, c] pos) (EV X C W false (.cmp2 op op' a' b' c')) := PE.imp (pe_chain (op_cmp hu op) (op_cmp hu op') ha hb hc hm) fun _ _ _ ⟨_, _, _, r, h⟩ => chain_read r h
theorem pt_ch {op op' : CmpOp} (hu : X.A.units + 64 < cLine) (hm : lastMarks [op, op'] [b, c] = false) (ha : PE X a (EV X C W false a')) (hb : PE X b (EV X C W false b')) (hc : PE X c (EV X C W false c')) :
    PT X (.Compare a [op, op'] [b, c] pos) (ET X C W (.cmp2 op op' a' b' c')) := PT.imp (pt_chain (op_cmp hu op) (op_cmp hu op') ha hb hc hm) (tt_of fun _ _ _ ⟨_, _, _, r, h⟩ => chain_read r h)
/-! one value, then what it gives -/
theorem one_v {σ : L2.St} {H : Hp} {Z : Ent} {F : Hp} {env : Env} {R' : V → Hp → Prop} {k : D → Env → Prop} (r : R X.K Z F env σ H) (f : Res D → Res D) (g : D → Env → Res D) (e1 : ∀ x e, f (.ok x e) = g x e) (e2 : ∀ c e, f (.exc c e) = .exc c e) (e3 : f .stuck = .stuck)
    (h : Okr (f (ev C a' env)) k (kX X.K W Z F σ))
    (fin : ∀ x e1 F1 H1 v, Okr (g x e1) k (kX X.K W Z F σ) → Same F F1 → R X.K Z F1 e1 σ H1 → Rep X.K F1 x v → R' v H1) : EV X C W false a' σ H fun v H1 => R' v H1 := by
  refine ⟨Z, F, env, r, ?_⟩
  cases hm : ev C a' env with
  | ok x e4 =>
    rw [hm, e1] at h
    intro F1 H1 v s1 r1 q1
    rw [Val.ff] at q1
    exact fin x e4 F1 H1 v h s1 r1 q1
  | exc c e4 => rw [hm, e2] at h; exact h
  | stuck => rw [hm, e3] at h; exact h.elim
theorem one_o {σ : L2.St} {H : Hp} {Z : Ent} {F : Hp} {env : Env} {R' : V → Hp → Prop} {k : D → Env → Prop} (r : R X.K Z F env σ H) (f : Res D → Res D) (g : D → Env → Res D) (e1 : ∀ x e, f (.ok x e) = g x e) (e2 : ∀ c e, f (.exc c e) = .exc c e) (e3 : f .stuck = .stuck)
    (h : Okr (f (ev C a' env)) k (kX X.K W Z F σ))
    (fin : ∀ x e1 F1 H1 v, Okr (g x e1) k (kX X.K W Z F σ) → Same F F1 → R X.K Z F1 e1 σ H1 → RepT X.K F1 H1 x v → R' v H1) : EO X C W a' σ H fun v H1 => R' v H1 := by
  refine ⟨Z, F, env, r, ?_⟩
  cases hm : ev C a' env with
  | ok x e4 =>
    rw [hm, e1] at h
    intro F1 H1 v s1 r1 q1
    exact fin x e4 F1 H1 v h s1 r1 (q1.now r1 hm)
  | exc c e4 => rw [hm, e2] at h; exact h
  | stuck => rw [hm, e3] at h; exact h.elim
theorem pe_ng (ha : PE X a (EV X C W false a')) : PE X (.UnaryOp .USub a pos) (EV X C W false (.neg a')) := by
  refine PE.imp (pe_un un_neg ha) fun σ H Q ⟨Z, F, env, r, h⟩ => ?_
  refine one_v (k := kP X.K false Q Z F σ) r (fun r => match r with | .ok x e1 => ofO ((int? x).map fun i => .int (-i)) e1 | r => r) (fun x e1 => ofO ((int? x).map fun i => .int (-i)) e1) (fun _ _ => rfl) (fun _ _ => rfl) rfl h fun x e1 F1 H1 v h s1 r1 q1 => ?_
  obtain ⟨d, e3, h⟩ := okr_of h
  obtain ⟨i, e4, rfl⟩ := map_none e3
  cases int?_eq e4
  cases q1
  exact ⟨i, rfl, h F1 H1 _ s1 r1 (by rw [Val.ff]; exact .int _)⟩
theorem bool?_eq {x : D} {i : Bool} (h : bool? x = some i) : x = .bool i := by
  cases x <;> simp [bool?] at h
  rw [h]
theorem pe_nt (ha : PE X a (EV X C W false a')) : PE X (.UnaryOp .Not a pos) (EV X C W false (.not a')) := by
  refine PE.imp (pe_not ha) fun σ H Q ⟨Z, F, env, r, h⟩ => ?_
  refine one_v (k := kP X.K false Q Z F σ) r (fun r => match r with | .ok x e1 => ofO ((bool? x).map fun c => .bool (!c)) e1 | r => r) (fun x e1 => ofO ((bool? x).map fun c => .bool (!c)) e1) (fun _ _ => rfl) (fun _ _ => rfl) rfl h fun x e1 F1 H1 v h s1 r1 q1 => ?_
  obtain ⟨d, e3, h⟩ := okr_of h
  obtain ⟨i, e4, rfl⟩ := map_none e3
  cases bool?_eq e4
  cases q1
  exact ⟨i, rfl, h F1 H1 _ s1 r1 (by rw [Val.ff]; exact .bl _)⟩
theorem pt_nt (ha : PT X a (ET X C W a')) : PT X (.UnaryOp .Not a pos) (ET X C W (.not a')) := by
  refine PT.imp (pt_not ha) fun σ H Q ⟨Z, F, env, r, h⟩ => ⟨Z, F, env, r, ?_⟩
  simp only [ev] at h
  cases h1 : ev C a' env with
  | ok x e1 =>
    rw [h1] at h
    obtain ⟨d, e3, h⟩ := okr_of h
    obtain ⟨i, e4, rfl⟩ := map_none e3
    cases bool?_eq e4
    obtain ⟨b, e5, h⟩ := h
    cases e5
    exact ⟨i, rfl, h⟩
  | exc c e1 => rw [h1] at h; exact h
  | stuck => rw [h1] at h; exact h.elim
variable {rest : List Expr}
theorem pe_an (ha : PE X a (EV X C W false a')) (hb : PE X (.BoolOp .And (b :: rest) pos) (EV X C W false b')) : PE X (.BoolOp .And (a :: b :: rest) pos) (EV X C W false (.and a' b')) := by
  refine PE.imp (pe_and ha hb) fun σ H Q ⟨Z, F, env, r, h⟩ => ⟨Z, F, env, r, ?_⟩
  simp only [ev] at h
  cases h1 : ev C a' env with
  | ok x e1 =>
    rw [h1] at h
    intro F1 H1 v s1 r1 q1
    rw [Val.ff] at q1
    cases x with
    | bool c =>
      cases q1
      refine ⟨c, rfl, ?_⟩
      cases c with
      | true =>
        rw [if_pos rfl]
        refine ⟨Z, F1, e1, r1, ?_⟩
        simp only at h
        cases h2 : ev C b' e1 with
        | ok y e2 => rw [h2] at h; exact kP.mono (F := F) h s1
        | exc c e2 => rw [h2] at h; exact kX.mono (F := F) h s1
        | stuck => rw [h2] at h; exact h.elim
      | false =>
        rw [if_neg Bool.false_ne_true]
        exact h F1 H1 _ s1 r1 (by rw [Val.ff]; exact .bl _)
    | _ => exact h.elim
  | exc c e1 => rw [h1] at h; exact h
  | stuck => rw [h1] at h; exact h.elim
theorem pe_r (ha : PE X a (EV X C W false a')) (hb : PE X (.BoolOp .Or (b :: rest) pos) (EV X C W false b')) : PE X (.BoolOp .Or (a :: b :: rest) pos) (EV X C W false (.or a' b')) := by
  refine PE.imp (pe_or ha hb) fun σ H Q ⟨Z, F, env, r, h⟩ => ⟨Z, F, env, r, ?_⟩
  simp only [ev] at h
  cases h1 : ev C a' env with
  | ok x e1 =>
    rw [h1] at h
    intro F1 H1 v s1 r1 q1
    rw [Val.ff] at q1
    cases x with
    | bool c =>
      cases q1
      refine ⟨c, rfl, ?_⟩
      cases c with
      | false =>
        rw [if_neg Bool.false_ne_true]
        refine ⟨Z, F1, e1, r1, ?_⟩
        simp only at h
        cases h2 : ev C b' e1 with
        | ok y e2 => rw [h2] at h; exact kP.mono (F := F) h s1
        | exc c e2 => rw [h2] at h; exact kX.mono (F := F) h s1
        | stuck => rw [h2] at h; exact h.elim
      | true =>
        rw [if_pos rfl]
        exact h F1 H1 _ s1 r1 (by rw [Val.ff]; exact .bl _)
    | _ => exact h.elim
  | exc c e1 => rw [h1] at h; exact h
  | stuck => rw [h1] at h; exact h.elim
theorem kT.mono {K : PySem.W.Frag} {Q : Bool → Hp → Prop} {Z : Ent} {F F' : Hp} {σ : L2.St} {d : D} {e : Env} (h : kT K Q Z F σ d e) (s : Same F F') : kT K Q Z F' σ d e := by
  obtain ⟨b, e1, h⟩ := h
  exact ⟨b, e1, fun F2 H2 s2 r => h F2 H2 (s.trans s2) r⟩
theorem okT_mono {K : PySem.W.Frag} {Q : Bool → Hp → Prop} {Z : Ent} {F F' : Hp} {σ : L2.St} {r : Res D} (h : Okr r (kT K Q Z F σ) (kX K W Z F σ)) (s : Same F F') : Okr r (kT K Q Z F' σ) (kX K W Z F' σ) := by
  cases r with
  | ok d e => exact kT.mono (F := F) h s
  | exc c e => exact kX.mono (F := F) h s
  | stuck => exact h
theorem okP_mono {K : PySem.W.Frag} {fr : Bool} {Q : VK} {Z : Ent} {F F' : Hp} {σ : L2.St} {r : Res D} (h : Okr r (kP K fr Q Z F σ) (kX K W Z F σ)) (s : Same F F') : Okr r (kP K fr Q Z F' σ) (kX K W Z F' σ) := by
  cases r with
  | ok d e => exact kP.mono (F := F) h s
  | exc c e => exact kX.mono (F := F) h s
  | stuck => exact h
theorem pw_an (ha : PT X a (ET X C W a')) (hb : PW X (.BoolOp .And (b :: rest) pos) (ET X C W b')) : PW X (.BoolOp .And (a :: b :: rest) pos) (ET X C W (.and a' b')) := by
  refine PW.imp (pw_and ha hb) fun σ H Q ⟨Z, F, env, r, h⟩ => ⟨Z, F, env, r, ?_⟩
  simp only [ev] at h
  cases h1 : ev C a' env with
  | ok x e1 =>
    rw [h1] at h
    cases x with
    | bool c =>
      refine ⟨c, rfl, fun F1 H1 s1 r1 => ?_⟩
      cases c with
      | true => rw [if_pos rfl]; exact ⟨Z, F1, e1, r1, okT_mono h s1⟩
      | false =>
        rw [if_neg Bool.false_ne_true]
        obtain ⟨b, e2, h⟩ := h
        cases e2
        exact h F1 H1 s1 r1
    | _ => exact h.elim
  | exc c e1 => rw [h1] at h; exact h
  | stuck => rw [h1] at h; exact h.elim
theorem pw_r (ha : PT X a (ET X C W a')) (hb : PW X (.BoolOp .Or (b :: rest) pos) (ET X C W b')) : PW X (.BoolOp .Or (a :: b :: rest) pos) (ET X C W (.or a' b')) := by
  refine PW.imp (pw_or ha hb) fun σ H Q ⟨Z, F, env, r, h⟩ => ⟨Z, F, env, r, ?_⟩
  simp only [ev] at h
  cases h1 : ev C a' env with
  | ok x e1 =>
    rw [h1] at h
    cases x with
    | bool c =>
      refine ⟨c, rfl, fun F1 H1 s1 r1 => ?_⟩
      cases c with
      | false => rw [if_neg Bool.false_ne_true]; exact ⟨Z, F1, e1, r1, okT_mono h s1⟩
      | true =>
        rw [if_pos rfl]
        obtain ⟨b, e2, h⟩ := h
        cases e2
        exact h F1 H1 s1 r1
    | _ => exact h.elim
  | exc c e1 => rw [h1] at h; exact h
  | stuck => rw [h1] at h; exact h.elim
theorem pe_if (hc : PT X c (ET X C W c')) (ha : PE X a (EV X C W false a')) (hb : PE X b (EV X C W false b')) : PE X (.IfExp c a b pos) (EV X C W false (.ite c' a' b')) := by
  refine PE.imp (pe_ifExp hc ha hb) fun σ H Q ⟨Z, F, env, r, h⟩ => ⟨Z, F, env, r, ?_⟩
  simp only [ev] at h
  cases h1 : ev C c' env with
  | ok x e1 =>
    rw [h1] at h
    cases x with
    | bool c =>
      refine ⟨c, rfl, fun F1 H1 s1 r1 => ?_⟩
      cases c with
      | true => rw [if_pos rfl]; exact ⟨Z, F1, e1, r1, okP_mono h s1⟩
      | false => rw [if_neg Bool.false_ne_true]; exact ⟨Z, F1, e1, r1, okP_mono h s1⟩
    | _ => exact h.elim
  | exc c e1 => rw [h1] at h; exact h
  | stuck => rw [h1] at h; exact h.elim
/-- a test from a value -/
theorem pt_vl {e' : IE} (h : PE X e (EV X C W false e')) (he : ∀ whole, isTrue e X.env whole = (do let v ← whole; standAt e.pos; holding [v] (truthy v))) : PT X e (ET X C W e') :=
  PT.imp (pt_val h he) (tt_of fun _ _ _ q => q)
end
end BT
namespace BT
open PySem PySem.Spec PyProof.Rows L2
/-! ## t[::-1] -/
section
variable {prog : Program} {w : World} {A : Around} {E : Value → Shared → Prop} {s : Shared}
theorem sliceApplied_rev {sl : Addr} {vl vu vs : Value} {n : Nat} {Q : Int × Int × Nat → Shared → Prop} (hs : s.heap.IsSliceOf sl vl vu vs) (pl : IsPart vl none) (pu : IsPart vu none) (ps : IsPart vs (some (-1)))
    (h : Q ((n : Int) - 1, -1, n) s) : wpAny (model prog w) A (Builtin.Slice.sliceApplied (.ref sl) (pure (n : Int))) Q E s := by
  obtain ⟨os, hos, hcs, hds⟩ := id hs
  unfold Builtin.Slice.sliceApplied Builtin.Slice.sliceFields
  refine wpAny_bind (wpAny_bind (wpAny_field hos hds (x := vl) rfl (wpAny_bind (wpAny_field hos hds (x := vu) rfl (wpAny_bind (wpAny_field hos hds (x := vs) rfl (wpAny_pure ?_)))))))
  refine wpAny_bind (HT.slicePart_ ps ?_)
  show wpAny _ _ (if ((-1 : Int) == 0) = true then _ else _) _ _ s
  rw [if_neg (by decide)]
  refine wpAny_bind (HT.slicePart_ pl (wpAny_bind (HT.slicePart_ pu (wpAny_bind (wpAny_pure ?_)))))
  show wpAny _ _ (match Builtin.Slice.sliceAdjust none none (-1) (n : Int) with | (lo, hi) => pure (lo, (-1 : Int), Builtin.Slice.slicePlaces lo hi (-1))) _ _ s
  have e1 : Builtin.Slice.sliceAdjust none none (-1) (n : Int) = ((n : Int) - 1, -1) := by
    unfold Builtin.Slice.sliceAdjust
    simp
  rw [e1]
  have e2 : Builtin.Slice.slicePlaces ((n : Int) - 1) (-1) (-1) = n := by
    unfold Builtin.Slice.slicePlaces
    rw [if_neg (by omega), show (- -1 : Int) = 1 from rfl, Int.ediv_one]
    split <;> omega
  show wpAny _ _ (pure ((n : Int) - 1, (-1 : Int), Builtin.Slice.slicePlaces ((n : Int) - 1) (-1) (-1))) _ _ s
  rw [e2]
  exact wpAny_pure h
theorem fm_map {α β : Type} {f : α → Option β} {g : α → β} : ∀ {l : List α}, (∀ m ∈ l, f m = some (g m)) → l.filterMap f = l.map g
  | [], _ => rfl
  | a :: l, h => by
    rw [List.filterMap_cons, h a List.mem_cons_self, List.map_cons, fm_map fun m hm => h m (List.mem_cons_of_mem _ hm)]
theorem pick_rev (xs : Array Value) : ((List.range xs.size).filterMap fun (m : Nat) => xs[((xs.size : Int) - 1 + (m : Int) * -1).toNat]?).toArray = xs.toList.reverse.toArray := by
  have e : (List.range xs.size).filterMap (fun (m : Nat) => xs[((xs.size : Int) - 1 + (m : Int) * -1).toNat]?) = xs.toList.reverse := by
    refine List.ext_getElem? fun i => ?_
    have g : ∀ (m : Nat), m ∈ List.range xs.size → (fun (m : Nat) => xs[((xs.size : Int) - 1 + (m : Int) * -1).toNat]?) m = some (xs.getD (xs.size - 1 - m) .none) := fun m hm => by
      have hm := List.mem_range.mp hm
      have e1 : ((xs.size : Int) - 1 + (m : Int) * -1).toNat = xs.size - 1 - m := by omega
      have h2 : xs.size - 1 - m < xs.size := by omega
      show xs[((xs.size : Int) - 1 + (m : Int) * -1).toNat]? = _
      rw [e1]
      simp [h2]
    have g2 : (List.range xs.size).filterMap (fun (m : Nat) => xs[((xs.size : Int) - 1 + (m : Int) * -1).toNat]?) = (List.range xs.size).map fun m => xs.getD (xs.size - 1 - m) .none := fm_map g
    rw [g2]
    by_cases hi : i < xs.size
    · rw [List.getElem?_reverse (by rw [Array.length_toList]; exact hi), Array.length_toList, List.getElem?_map, List.getElem?_range hi]
      have h2 : xs.size - 1 - i < xs.size := by omega
      simp [h2]
    · rw [List.getElem?_eq_none (by simp; omega), List.getElem?_eq_none (by simp; omega)]
  rw [e]
theorem getItem_tuple_rev {t sl : Addr} {items : Array Value} {vl vu vs : Value} {Q : Value → Shared → Prop} (ht : IsTup s.heap t items) (hs : s.heap.IsSliceOf sl vl vu vs) (pl : IsPart vl none) (pu : IsPart vu none) (ps : IsPart vs (some (-1)))
    (h : Q (.ref s.heap.objs.size) { s with heap := s.heap.push { cls := .type "tuple", data := .seq items.toList.reverse.toArray } }) (hsz : items.size ≤ sizeLine) : wpAny (model prog w) A (getItem (.ref t) (.ref sl)) Q E s := by
  have htake : sizeOk (.seq items.toList.reverse.toArray) := by
    show items.toList.reverse.toArray.size ≤ sizeLine
    rw [List.size_toArray, List.length_reverse, Array.length_toList]
    exact hsz
  obtain ⟨os, hos, hcs, hds⟩ := id hs
  have hTs : s.TypeIs (.ref sl) "slice" := ⟨os, hos, hcs⟩
  unfold getItem
  try with_reducible refine wpAny_holding ?_
  first | refine wpAny_bind (wpAny_pure ?_) | skip
  refine wpAny_bind (wpAny_sequenceKey ht.typeIs (by decide) ?_)
  refine wpAny_bind (wpAny_callSpecial?_slot (name := Str.ofString "__getitem__") ht.typeIs PyProof.Rows.slot_tuple_getitem
    (wpAny_call_entry PyProof.Rows.slot_tuple_getitem ht.typeIs entry_tuple_getitem ?_ (args_tuple_getitem _ _)))
  show wpAny _ _ (Builtin.Tuple.tupleItemsOf (.ref t) >>= _) _ _ s
  refine wpAny_bind (tupleItemsOf_ ht (wpAny_bind (wpAny_typeOf hTs ?_)))
  rw [if_pos (by decide)]
  refine wpAny_bind (sliceApplied_rev hs pl pu ps ?_)
  have hno : ¬ ((((items.size : Int) - 1) == 0 && (-1 : Int) == 1 && items.size == items.size) = true) := by
    intro q
    rw [Bool.and_eq_true, Bool.and_eq_true] at q
    exact absurd q.1.2 (by decide)
  show wpAny _ _ (if (((items.size : Int) - 1) == 0 && (-1 : Int) == 1 && items.size == items.size) = true then _ else _) _ _ s
  rw [if_neg hno, pick_rev]
  first
    | exact wpAny_bind (m := Builtin.Tuple.tupleExact _) (wpAny_newObj_type (wpAny_pure ⟨_, rfl, wpAny_pure h⟩) htake)
    | exact wpAny_bind (m := Builtin.Tuple.tupleExact _) (wpAny_newObj_type (wpAny_bind (wpAny_pure (wpAny_pure ⟨_, rfl, wpAny_pure h⟩))) htake)
end
section
variable {X : Cx} {C : Calls} {W : WX} {a b c e : Expr} {es : List Expr} {a' b' c' : IE} {as' : IEs} {pos : Pos}
abbrev EA (X : Cx) (C : Calls) (W : WX) (as : IEs) : TA := tAs X.K W (evs C as)
theorem pa_n : PA X [] (EA X C W .nil) := PA.imp pa_nil fun σ H Q ⟨Z, F, env, r, h⟩ => h F H [] (Same.refl F) r .nil
theorem kA.mono {K : PySem.W.Frag} {Q : List V → Hp → Prop} {Z : Ent} {F F' : Hp} {σ : L2.St} {d : List D} {e : Env} (h : kA K Q Z F σ d e) (s : Same F F') : kA K Q Z F' σ d e := fun F2 H2 v s2 r => h F2 H2 v (s.trans s2) r
theorem pa_c (ha : PE X a (EV X C W false a')) (hr : PA X es (EA X C W as')) (hs : starEach (a :: es) X.env = (false, eval a X.env) :: starEach es X.env) : PA X (a :: es) (EA X C W (.cons a' as')) := by
  refine PA.imp (pa_cons ha hr hs) fun σ H Q ⟨Z, F, env, r, h⟩ => ⟨Z, F, env, r, ?_⟩
  simp only [evs] at h
  cases h1 : ev C a' env with
  | ok x e1 =>
    rw [h1] at h
    intro F1 H1 v s1 r1 q1
    rw [Val.ff] at q1
    refine ⟨Z, F1, e1, r1, ?_⟩
    simp only at h
    cases h2 : evs C as' e1 with
    | ok ds e2 =>
      rw [h2] at h
      intro F2 H2 vs s2 r2 q2
      exact h F2 H2 _ (s1.trans s2) r2 (.cons (q1.mono s2) q2)
    | exc c e2 => rw [h2] at h; exact kX.mono (F := F) h s1
    | stuck => rw [h2] at h; exact h.elim
  | exc c e1 => rw [h1] at h; exact h
  | stuck => rw [h1] at h; exact h.elim
/-! displays -/
theorem okA {σ : L2.St} {H : Hp} {Z : Ent} {F : Hp} {env : Env} {Q : List V → Hp → Prop} {k : D → Env → Prop} (r : R X.K Z F env σ H) {g : List D → Env → Res D}
    (h : Okr (match evs C as' env with | .ok ds e1 => g ds e1 | .exc c e1 => .exc c e1 | .stuck => .stuck) k (kX X.K W Z F σ))
    (fin : ∀ ds e1 F1 H1 vs, Okr (g ds e1) k (kX X.K W Z F σ) → Same F F1 → R X.K Z F1 e1 σ H1 → Reps X.K F1 ds vs → Q vs H1) : EA X C W as' σ H Q := by
  refine ⟨Z, F, env, r, ?_⟩
  cases h1 : evs C as' env with
  | ok ds e1 =>
    rw [h1] at h
    intro F1 H1 vs s1 r1 q1
    exact fin ds e1 F1 H1 vs h s1 r1 q1
  | exc c e1 => rw [h1] at h; exact h
  | stuck => rw [h1] at h; exact h.elim
def lenEs : IEs → Nat
  | .nil => 0
  | .cons _ as => lenEs as + 1
theorem evs_len : ∀ {as : IEs} {env e1 : Env} {ds : List D}, evs C as env = .ok ds e1 → ds.length = lenEs as
  | .nil, _, _, _, h => by
    simp only [evs] at h
    cases h
    rfl
  | .cons a as, env, _, _, h => by
    simp only [evs] at h
    split at h
    · split at h
      · rename_i h2
        cases h
        rw [List.length_cons, evs_len h2]
        rfl
      · rename_i hn
        exact (hn _ _ h).elim
    · cases h
    · cases h
theorem pe_ls {fr : Bool} (h : PA X es (EA X C W as')) (hz : lenEs as' ≤ 1000) : PE X (.List es pos) (EV X C W fr (.lst as')) := by
  refine PE.imp (pe_lst h) fun σ H Q ⟨Z, F, env, r, h⟩ => ?_
  simp only [ev] at h
  refine ⟨Z, F, env, r, ?_⟩
  cases h1 : evs C as' env with
  | ok ds e1 =>
    rw [h1] at h
    intro F1 H1 vs s1 r1 q1
    have z : vs.length ≤ sizeLine := by rw [q1.length, evs_len h1, sizeLine_eq]; omega
    exact ⟨z, fun p hp => (out_of r1 s1 h).2.1 p _ _ rfl hp z q1⟩
  | exc c e1 => rw [h1] at h; exact h
  | stuck => rw [h1] at h; exact h.elim
def tTupF (t : TA) : TE := fun σ H Q => t σ H fun xs H1 => xs.length ≤ sizeLine ∧ ∀ p o, H1 p = none → o.dict = none → o.cls = .type "tuple" → Q (.ref p) (upd H1 p (.frz o (.tup xs)))
theorem pe_tupF {x1} {t : TA} (h : PA X es t) : PE X (.Tuple es x1 pos) (tTupF t) := by
  refine ⟨fun pins s σ H Q I hq => ?_⟩
  refine wpAny_Tuple_spliced (thn (h.run pos pins s σ H _ I hq) fun us s1 ⟨xs, H1, I1, r, z, q⟩ => ⟨by rw [← r.length]; exact z, ?_⟩)
  exact tupNew I1 r z s1.toks q
theorem pe_tp {x1} (h : PA X es (EA X C W as')) (hz : lenEs as' ≤ 1000) : PE X (.Tuple es x1 pos) (EV X C W false (.tup as')) := by
  refine PE.imp (pe_tupF h) fun σ H Q ⟨Z, F, env, r, h⟩ => ?_
  simp only [ev] at h
  refine ⟨Z, F, env, r, ?_⟩
  cases h1 : evs C as' env with
  | ok ds e1 =>
    rw [h1] at h
    intro F1 H1 vs s1 r1 q1
    have z : vs.length ≤ sizeLine := by rw [q1.length, evs_len h1, sizeLine_eq]; omega
    exact ⟨z, fun p o hp hd hcl => (out_of r1 s1 h).2.2 p o _ _ rfl hp z hd hcl q1⟩
  | exc c e1 => rw [h1] at h; exact h
  | stuck => rw [h1] at h; exact h.elim
/-! built-in functions -/
variable {x : Str} {q : Pos} {id T : String}
theorem pr_read {p : Pr} {fr : Bool} {σ : L2.St} {H : Hp} {Q : VK} {Z : Ent} {F : Hp} {env : Env} (r : R X.K Z F env σ H) (h : Okr (ev C (.pr p a') env) (kP X.K fr Q Z F σ) (kX X.K W Z F σ)) :
    tCB (rPr X.K p) (tCons (EO X C W a') tNil) σ H Q := by
  refine one_o (k := kP X.K fr Q Z F σ) r (fun r => match r with | .ok x e1 => ofO (dpr p x) e1 | r => r) (fun x e1 => ofO (dpr p x) e1) (fun _ _ => rfl) (fun _ _ => rfl) rfl h fun x e1 F1 H1 v h s1 r1 q1 => ?_
  obtain ⟨d, e3, h⟩ := okr_of h
  exact ⟨F1, x, v, d, rfl, r1.fh, q1, e3, out_of r1 s1 h⟩
theorem pe_prB {p : Pr} {fr : Bool} (hc : CallR X (.builtin id) (rPr X.K p)) (hg : Gl X x) (hm : X.mg x = none) (hv : bootBuiltins x = some (.builtin id)) (ha : PE X a (EO X C W a')) (hn : x ≠ "__name__") (hdb : (x == ("__debug__" : Str)) = false)
    (he : starEach [a] X.env = (false, eval a X.env) :: starEach [] X.env) : PE X (.Call (.Name x q) [a] [] pos) (EV X C W fr (.pr p a')) :=
  PE.imp (pe_callB hc hg hm hv (pa_cons ha pa_nil he) hn hdb he rfl) fun _ _ _ ⟨_, _, _, r, h⟩ => pr_read r h
theorem pe_prT {p : Pr} {fr : Bool} (hc : CallR X (.type T) (rPr X.K p)) (hg : Gl X x) (hm : X.mg x = none) (hv : bootBuiltins x = some (.type T)) (ha : PE X a (EO X C W a')) (hn : x ≠ "__name__") (hdb : (x == ("__debug__" : Str)) = false)
    (he : starEach [a] X.env = (false, eval a X.env) :: starEach [] X.env) : PE X (.Call (.Name x q) [a] [] pos) (EV X C W fr (.pr p a')) :=
  PE.imp (pe_callTy hc hg hm hv (pa_cons ha pa_nil he) hn hdb he rfl) fun _ _ _ ⟨_, _, _, r, h⟩ => pr_read r h
/-- two values, then what they give -/
theorem two_v {σ : L2.St} {H : Hp} {Z : Ent} {F : Hp} {env : Env} {R' : V → V → Hp → Prop} {k : D → Env → Prop} (r : R X.K Z F env σ H) (f : Res D → (Env → Res D) → Res D) (g : D → D → Env → Res D)
    (e0 : ∀ x e m, f (.ok x e) m = (match m e with | .ok y e2 => g x y e2 | .exc c e => .exc c e | .stuck => .stuck)) (e2 : ∀ c e m, f (.exc c e) m = .exc c e) (e3 : ∀ m, f .stuck m = .stuck)
    (h : Okr (f (ev C a' env) (ev C b')) k (kX X.K W Z F σ))
    (fin : ∀ x y e2 F2 H2 v u, Okr (g x y e2) k (kX X.K W Z F σ) → Same F F2 → R X.K Z F2 e2 σ H2 → Rep X.K F2 x v → Rep X.K F2 y u → R' v u H2) :
    EV X C W false a' σ H fun v H1 => EV X C W false b' σ H1 fun u H2 => R' v u H2 := by
  refine ⟨Z, F, env, r, ?_⟩
  cases hm : ev C a' env with
  | ok x e1 =>
    rw [hm, e0] at h
    intro F1 H1 v s1 r1 q1
    rw [Val.ff] at q1
    refine ⟨Z, F1, e1, r1, ?_⟩
    cases hm2 : ev C b' e1 with
    | ok y e2 =>
      rw [hm2] at h
      intro F2 H2 u s2 r2 q2
      rw [Val.ff] at q2
      exact fin x y e2 F2 H2 v u h (s1.trans s2) r2 (q1.mono s2) q2
    | exc c e2 => rw [hm2] at h; exact kX.mono (F := F) h s1
    | stuck => rw [hm2] at h; exact h.elim
  | exc c e1 => rw [hm, e2] at h; exact h
  | stuck => rw [hm, e3] at h; exact h.elim
theorem eta3 {α : Type} {r : Res α} {k : α → Env → Prop} {w : String → Env → Prop} : Okr (match r with | .ok a e => Res.ok a e | .exc c e => .exc c e | .stuck => .stuck) k w = Okr r k w := by cases r <;> rfl
theorem mm_read {σ : L2.St} {H : Hp} {Q : VK} {Z : Ent} {F : Hp} {env : Env} (r : R X.K Z F env σ H) (f : Int → Int → Int)
    (h : Okr (match ev C a' env with | .ok x e1 => (match ev C b' e1 with | .ok y e2 => ofO ((int? x).bind fun i => (int? y).map fun j => .int (f i j)) e2 | r => r) | r => r) (kP X.K false Q Z F σ) (kX X.K W Z F σ)) :
    tCB (fun xs H Q => ∃ i j, xs = [.int i, .int j] ∧ Q (.int (f i j)) H) (tCons (EV X C W false a') (tCons (EV X C W false b') tNil)) σ H Q := by
  refine two_v (k := kP X.K false Q Z F σ) r (fun r m => match r with | .ok x e1 => (match m e1 with | .ok y e2 => ofO ((int? x).bind fun i => (int? y).map fun j => .int (f i j)) e2 | r => r) | r => r)
    (fun x y e2 => ofO ((int? x).bind fun i => (int? y).map fun j => .int (f i j)) e2) (fun x e m => by dsimp only; cases m e <;> rfl) (fun _ _ _ => rfl) (fun _ => rfl) h fun x y e2 F2 H2 v u h s r q1 q2 => ?_
  obtain ⟨d, e3, h⟩ := okr_of h
  obtain ⟨i, e4, e5⟩ := bind_none e3
  obtain ⟨j, e6, rfl⟩ := map_none e5
  cases int?_eq e4
  cases int?_eq e6
  cases q1
  cases q2
  exact ⟨i, j, rfl, h F2 H2 _ s r (by rw [Val.ff]; exact .int _)⟩
theorem pe_mn (hc : X.calm = true) (hg : Gl X x) (hm : X.mg x = none) (hv : bootBuiltins x = some (.builtin "min")) (ha : PE X a (EV X C W false a')) (hb : PE X b (EV X C W false b')) (hn : x ≠ "__name__") (hdb : (x == ("__debug__" : Str)) = false)
    (he : starEach [a, b] X.env = (false, eval a X.env) :: starEach [b] X.env) (hf : starEach [b] X.env = (false, eval b X.env) :: starEach [] X.env) : PE X (.Call (.Name x q) [a, b] [] pos) (EV X C W false (.min2 a' b')) :=
  PE.imp (pe_callB (call_min2 hc) hg hm hv (pa_cons ha (pa_cons hb pa_nil hf) he) hn hdb he (by rw [hf]; rfl)) fun _ _ _ ⟨_, _, _, r, h⟩ => mm_read r (fun i j => if j < i then j else i) (by simp only [ev] at h; exact h)
theorem pe_mx (hc : X.calm = true) (hg : Gl X x) (hm : X.mg x = none) (hv : bootBuiltins x = some (.builtin "max")) (ha : PE X a (EV X C W false a')) (hb : PE X b (EV X C W false b')) (hn : x ≠ "__name__") (hdb : (x == ("__debug__" : Str)) = false)
    (he : starEach [a, b] X.env = (false, eval a X.env) :: starEach [b] X.env) (hf : starEach [b] X.env = (false, eval b X.env) :: starEach [] X.env) : PE X (.Call (.Name x q) [a, b] [] pos) (EV X C W false (.max2 a' b')) :=
  PE.imp (pe_callB (call_max2 hc) hg hm hv (pa_cons ha (pa_cons hb pa_nil hf) he) hn hdb he (by rw [hf]; rfl)) fun _ _ _ ⟨_, _, _, r, h⟩ => mm_read r (fun i j => if j > i then j else i) (by simp only [ev] at h; exact h)
/-! isinstance -/
/-- T or (T, ..) in the second place -/
def TyE (X : Cx) (c : Expr) (ts : List Ty) : Prop := ∃ t : TE, PE X c t ∧ ∀ σ H (Q : VK), (∀ v H', ((∃ t, ts = [t] ∧ v = .ty (tyS t) ∧ H' = H) ∨ ∃ p, v = .ref p ∧ H p = none ∧ H' = upd H p (.tup (ts.map fun t => V.ty (tyS t)))) → Q v H') → t σ H Q
theorem pe_is {ts : List Ty} (hg : Gl X x) (hm : X.mg x = none) (hv : bootBuiltins x = some (.builtin "isinstance")) (ha : PE X a (EO X C W a')) (hc : TyE X c ts) (hn : x ≠ "__name__") (hdb : (x == ("__debug__" : Str)) = false)
    (he : starEach [a, c] X.env = (false, eval a X.env) :: starEach [c] X.env) (hf : starEach [c] X.env = (false, eval c X.env) :: starEach [] X.env) : PE X (.Call (.Name x q) [a, c] [] pos) (EV X C W false (.isi a' ts)) := by
  obtain ⟨t, hct, ht⟩ := hc
  refine PE.imp (pe_callB (pr_isi ts) hg hm hv (pa_cons ha (pa_cons hct pa_nil hf) he) hn hdb he (by rw [hf]; rfl)) fun σ H Q ⟨Z, F, env, r, h⟩ => ?_
  refine one_o (k := kP X.K false Q Z F σ) r (fun r => match r with | .ok x e1 => .ok (.bool (ts.any (isTy x))) e1 | r => r) (fun x e1 => .ok (.bool (ts.any (isTy x))) e1) (fun _ _ => rfl) (fun _ _ => rfl) rfl h fun x e1 F1 H1 v h s1 r1 q1 => ?_
  refine ht σ H1 _ fun u H' hu => ?_
  rcases hu with ⟨t, e1, e2, e3⟩ | ⟨p, e1, e2, e3⟩
  · subst e3
    exact ⟨F1, x, v, u, rfl, r1.fh, q1, .inl ⟨t, e1, e2⟩, h F1 _ _ s1 r1 (by rw [Val.ff]; exact .bl _)⟩
  · subst e3
    have r2 := r1.new (o := .tup (ts.map fun t => V.ty (tyS t))) e2
    have s2 := r1.sameNew (o := .tup (ts.map fun t => V.ty (tyS t))) e2
    refine ⟨_, x, v, u, rfl, r2.fh, ?_, .inr ⟨p, e1, upd_same⟩, h _ _ _ (s1.trans s2) r2 (by rw [Val.ff]; exact .bl _)⟩
    cases q1 with
    | rep w => exact .rep (w.mono s2)
    | own w =>
      obtain ⟨o, ho⟩ := w.some
      exact .own ((w.mono s2).at fun o' e' => by rw [upd_ne (ne_of_none e' e2)]; exact e')
/-! items, parts -/
theorem ix_read {σ : L2.St} {H : Hp} {Q : VK} {Z : Ent} {F : Hp} {env : Env} (r : R X.K Z F env σ H) (h : Okr (ev C (.ix a' b') env) (kP X.K false Q Z F σ) (kX X.K W Z F σ)) :
    tOp (rIxD X.K) (EO X C W a') (EO X C W b') σ H Q := by
  refine two_o (g := fun x y e2 => ofO ((rr a' x e2).bind fun x' => dix x' y) e2) (k := kP X.K false Q Z F σ) r ?_ fun x y e1 e2 F1 F2 H2 v u m1 m2 h s1 s2 r2 q1 q2 => ?_
  · simp only [ev] at h
    cases h1 : ev C a' env with
    | ok x e1 =>
      rw [h1] at h
      simp only at h ⊢
      cases h2 : ev C b' e1 with
      | ok y e2 => rw [h2] at h; exact h
      | exc c e2 => rw [h2] at h; exact h
      | stuck => rw [h2] at h; exact h
    | exc c e1 => rw [h1] at h; exact h
    | stuck => rw [h1] at h; exact h
  · obtain ⟨d, e3, h⟩ := okr_of h
    obtain ⟨x', e4, e5⟩ := bind_none e3
    exact ⟨F2, x', y, d, r2.fh, q1.late s2 r2 e4, q2.now r2 m2, e5, fun w hw => h F2 H2 w (s1.trans s2) r2 (by rw [Val.ff]; exact hw)⟩
theorem pe_ixD (hs : PlainIx b) (ha : PE X a (EO X C W a')) (hb : PE X b (EO X C W b')) : PE X (.Subscript a b pos) (EV X C W false (.ix a' b')) :=
  PE.imp (pe_ix ix_D ha hb hs) fun _ _ _ ⟨_, _, _, r, h⟩ => ix_read r h
theorem pe_sl1 {fr : Bool} {p2 : Pos} (up : Bool) (ha : PE X a (EO X C W a')) (hb : PE X b (EO X C W b')) :
    PE X (.Subscript a (.Slice (if up then none else some b) (if up then some b else none) none p2) pos) (EV X C W fr (if up then .slu a' b' else .sll a' b')) := by
  cases up with
  | true =>
    simp only [if_true]
    refine PE.imp (pe_slice sl_D ha po_none (po_some hb)) fun σ H Q ⟨Z, F, env, r, h⟩ => ?_
    show EO X C W a' σ H fun x H1 => EO X C W b' σ H1 fun y H3 => ∃ i, y = .int i ∧ rSlD X.K x none (some i) H3 Q
    refine two_o (g := fun x y e2 => ofO ((rr a' x e2).bind fun x' => (int? y).bind fun j => dsl x' none (some j)) e2) (k := kP X.K fr Q Z F σ) r ?_ fun x y e1 e2 F1 F2 H2 v u m1 m2 h s1 s2 r2 q1 q2 => ?_
    · simp only [ev] at h
      cases h1 : ev C a' env with
      | ok x e1 =>
        rw [h1] at h
        simp only at h ⊢
        cases h2 : ev C b' e1 with
        | ok y e2 => rw [h2] at h; exact h
        | exc c e2 => rw [h2] at h; exact h
        | stuck => rw [h2] at h; exact h
      | exc c e1 => rw [h1] at h; exact h
      | stuck => rw [h1] at h; exact h
    · obtain ⟨d, e3, h'⟩ := okr_of h
      clear h
      obtain ⟨x', e4, e5⟩ := bind_none e3
      obtain ⟨j, e6, e7⟩ := bind_none e5
      cases int?_eq e6
      cases (q2.now r2 m2).int
      exact ⟨j, rfl, F2, x', d, r2.fh, q1.late s2 r2 e4, e7, out_of r2 (s1.trans s2) h'⟩
  | false =>
    simp only [if_false, Bool.false_eq_true]
    refine PE.imp (pe_slice sl_D ha (po_some hb) po_none) fun σ H Q ⟨Z, F, env, r, h⟩ => ?_
    show EO X C W a' σ H fun x H1 => EO X C W b' σ H1 fun y H3 => ∃ i, y = .int i ∧ rSlD X.K x (some i) none H3 Q
    refine two_o (g := fun x y e2 => ofO ((rr a' x e2).bind fun x' => (int? y).bind fun j => dsl x' (some j) none) e2) (k := kP X.K fr Q Z F σ) r ?_ fun x y e1 e2 F1 F2 H2 v u m1 m2 h s1 s2 r2 q1 q2 => ?_
    · simp only [ev] at h
      cases h1 : ev C a' env with
      | ok x e1 =>
        rw [h1] at h
        simp only at h ⊢
        cases h2 : ev C b' e1 with
        | ok y e2 => rw [h2] at h; exact h
        | exc c e2 => rw [h2] at h; exact h
        | stuck => rw [h2] at h; exact h
      | exc c e1 => rw [h1] at h; exact h
      | stuck => rw [h1] at h; exact h
    · obtain ⟨d, e3, h'⟩ := okr_of h
      clear h
      obtain ⟨x', e4, e5⟩ := bind_none e3
      obtain ⟨j, e6, e7⟩ := bind_none e5
      cases int?_eq e6
      cases (q2.now r2 m2).int
      exact ⟨j, rfl, F2, x', d, r2.fh, q1.late s2 r2 e4, e7, out_of r2 (s1.trans s2) h'⟩
theorem pe_sl2 {fr : Bool} {p2 : Pos} (ha : PE X a (EO X C W a')) (hb : PE X b (EV X C W false b')) (hc : PE X c (EV X C W false c')) :
    PE X (.Subscript a (.Slice (some b) (some c) none p2) pos) (EV X C W fr (.slb a' b' c')) := by
  refine PE.imp (pe_slice sl_D ha (po_some hb) (po_some hc)) fun σ H Q ⟨Z, F, env, r, h⟩ => ?_
  show EO X C W a' σ H fun x H1 => EV X C W false b' σ H1 fun y H3 => ∃ i, y = .int i ∧ EV X C W false c' σ H3 fun z H4 => ∃ j, z = .int j ∧ rSlD X.K x (some i) (some j) H4 Q
  simp only [ev] at h
  refine ⟨Z, F, env, r, ?_⟩
  cases h1 : ev C a' env with
  | ok x e1 =>
    rw [h1] at h
    intro F1 H1 v s1 r1 q1
    refine ⟨Z, F1, e1, r1, ?_⟩
    simp only at h
    cases h2 : ev C b' e1 with
    | ok y e2 =>
      rw [h2] at h
      intro F2 H2 u s2 r2 q2
      rw [Val.ff] at q2
      simp only at h
      cases h3 : int? y with
      | none => rw [h3] at h; exact h.elim
      | some j =>
        rw [h3] at h
        cases int?_eq h3
        cases q2
        refine ⟨j, rfl, Z, F2, e2, r2, ?_⟩
        simp only at h
        cases h4 : ev C c' e2 with
        | ok z e3 =>
          rw [h4] at h
          intro F3 H3 w s3 r3 q3
          rw [Val.ff] at q3
          obtain ⟨d, e4, h'⟩ := okr_of h
          clear h
          obtain ⟨x', e5, e6⟩ := bind_none e4
          obtain ⟨l, e7, e8⟩ := bind_none e6
          cases int?_eq e7
          cases q3
          exact ⟨l, rfl, F3, x', d, r3.fh, q1.late (s2.trans s3) r3 e5, e8, out_of r3 ((s1.trans s2).trans s3) h'⟩
        | exc c e3 => rw [h4] at h; exact kX.mono (F := F) h (s1.trans s2)
        | stuck => rw [h4] at h; exact h.elim
    | exc c e2 => rw [h2] at h; exact kX.mono (F := F) h s1
    | stuck => rw [h2] at h; exact h.elim
  | exc c e1 => rw [h1] at h; exact h
  | stuck => rw [h1] at h; exact h.elim
end
end BT
namespace BT
open PySem PySem.Spec PyProof.Rows L2
section
variable {X : Cx} {C : Calls} {W : WX} {a b c e : Expr} {es : List Expr} {a' b' c' : IE} {as' : IEs} {pos : Pos}
/-! x[::-1] -/
def rRevD (K : PySem.W.Frag) : V → Hp → VK → Prop := fun x H Q => ∃ F dx d, Same F H ∧ RepT K F H dx x ∧ drev dx = some d ∧ OutV K F H d Q
theorem pe_revD {te : TE} {k : Nat} {p1 p2 p3 : Pos} (he : PE X e te) : PE X (.Subscript e (.Slice none none (some (.UnaryOp .USub (.Constant (.int 1) k p1) p2)) p3) pos) (fun σ H Q => te σ H fun x H1 => rRevD X.K x H1 Q) := by
  refine ⟨fun pins s σ H Q I h => ?_⟩
  refine Subscript_ (thn (he.run pins s σ H _ I h) fun v s1 ⟨x, H1, I1, r1, q1⟩ => ?_)
  have hst : PO X (some (.UnaryOp .USub (.Constant (.int 1) k p1) p2)) (tPart (tUn (rU fun i => .int (-i)) (tC (.int 1)))) := po_some (pe_un un_neg pe_int)
  refine wpAny_Slice (thn (po_none.run pins s1 σ H1 (fun o H2 => o = none ∧ H2 = H1) I1 ⟨rfl, rfl⟩) fun vl s2 ⟨l, H2, I2, pl, el, e2⟩ => ?_)
  subst el e2
  refine thn (po_none.run pins s2 σ H2 (fun o H3 => o = none ∧ H3 = H2) I2 ⟨rfl, rfl⟩) fun vu s3 ⟨u, H3, I3, pu, eu, e3⟩ => ?_
  subst eu e3
  refine thn (hst.run pins s3 σ H3 (fun o H4 => o = some (-1) ∧ H4 = H3) I3 ⟨1, rfl, -1, rfl, rfl, rfl⟩) fun vs s4 ⟨o, H4, I4, ps, eo, e4⟩ => ?_
  subst eo e4
  have I5 : Inv X pins σ H4 { s4 with heap := s4.heap.push { cls := .type "slice", data := .fields #[vl, vu, vs] } } := I4.kept (t' := s4.toks) fun b ob q => Heap.get?_push_of_some _ q
  obtain ⟨F, dx, d, sf, hx, ed, ou⟩ := q1
  have hs5 := Heap.IsSliceOf.new s4.heap vl vu vs
  cases dx with
  | list ds =>
    cases ed
    obtain ⟨a, xs, rfl, ha, ra⟩ := hx.list sf
    cases r1
    obtain ⟨its, r, ht, hz⟩ := I5.list ha.sq
    show wpAny (model X.prog X.w) X.A (subscriptTail e (.Slice none none (some (.UnaryOp .USub (.Constant (.int 1) k p1) p2)) p3) (.ref a) (.ref s4.heap.objs.size)) (EP X pins σ Q) X.xe { s4 with heap := s4.heap.push { cls := .type "slice", data := .fields #[vl, vu, vs] } }
    refine tail_any (ops := [.ref a, .ref s4.heap.objs.size]) ht.isList.typeIs (PySem.slot_list_getitem.lookup) ?_ (by with_unfolding_all rfl)
    refine wpAny_getItem_list_slice ht.isList hs5 pl pu ps (by decide) ?_ (by rw [List.size_toArray, ← r.length]; exact hz)
    rw [PySem.W.krv_pick]
    exact lstNew I5 r.reverse (by rw [List.length_reverse]; exact hz) s4.toks fun p hp => ou.2.1 p _ _ rfl hp (by rw [List.length_reverse]; exact hz) ra.reverse
  | tuple ds =>
    cases ed
    obtain ⟨a, xs, rfl, ha, ra⟩ := hx.tuple
    cases r1
    obtain ⟨its, r, ht, hz⟩ := I5.tuple (ha.mono sf).sq
    show wpAny (model X.prog X.w) X.A (subscriptTail e (.Slice none none (some (.UnaryOp .USub (.Constant (.int 1) k p1) p2)) p3) (.ref a) (.ref s4.heap.objs.size)) (EP X pins σ Q) X.xe { s4 with heap := s4.heap.push { cls := .type "slice", data := .fields #[vl, vu, vs] } }
    refine tail_any (ops := [.ref a, .ref s4.heap.objs.size]) ht.typeIs PyProof.Rows.slot_tuple_getitem.lookup ?_ (by with_unfolding_all rfl)
    refine getItem_tuple_rev ht hs5 pl pu ps ?_ (by rw [List.size_toArray, ← r.length]; exact hz)
    exact tupNew I5 r.reverse (by rw [List.length_reverse]; exact hz) s4.toks fun p ob hp hd hcl => ou.2.2 p ob _ _ rfl hp (by rw [List.length_reverse]; exact hz) hd hcl ra.reverse
  | _ => cases ed
theorem pe_rv {fr : Bool} {k : Nat} {p1 p2 p3 : Pos} (ha : PE X a (EO X C W a')) : PE X (.Subscript a (.Slice none none (some (.UnaryOp .USub (.Constant (.int 1) k p1) p2)) p3) pos) (EV X C W fr (.rev a')) :=
  PE.imp (pe_revD ha) fun σ H Q ⟨Z, F, env, r, h⟩ => one_o (k := kP X.K fr Q Z F σ) r (fun r => match r with | .ok x e1 => ofO (drev x) e1 | r => r) (fun x e1 => ofO (drev x) e1) (fun _ _ => rfl) (fun _ _ => rfl) rfl h fun x e1 F1 H1 v h s1 r1 q1 => by
    obtain ⟨d, e3, h⟩ := okr_of h
    exact ⟨F1, x, d, r1.fh, q1, e3, out_of r1 s1 h⟩
/-! methods of lists and tuples -/
/-- a method of a built-in type, the object's class told by what it stands for -/
theorem pe_mt {o : Expr} {to : TE} {t : TA} {name : Str} {apos cpos : Pos} {r : V → List V → Hp → VK → Prop} (ho : PE X o to) (ha : PA X (e :: es) t)
    (tk : V → Hp → Prop) (htk : ∀ (pins : List (Addr × Obj)) (s : Shared) (σ : L2.St) (H : Hp) (x : V) (v : Value), Inv X pins σ H s → RelV x v → tk x H →
      ∃ T id, PlainAttrs T ∧ PySem.Slot T name id ∧ typeOf (.builtin id) = pure (.type "method_descriptor") ∧ s.TypeIs v T ∧ (∀ a, v = .ref a → ∃ ob, s.heap.get? a = some ob ∧ ob.dict = none) ∧
        ∀ (pins : List (Addr × Obj)) (s2 : Shared) (σ : L2.St) (H2 : Hp) (xs : List V) (us : List Value) (Q : VK), Inv X pins σ H2 s2 → Vals xs us → r x xs H2 Q → wpAny (model X.prog X.w) X.A (call (.builtin id) (v :: us)) (EP X pins σ Q) X.xe s2)
    (hbase : attributeBase o name X.env (eval o X.env) = eval o X.env)
    (hfew : ((backTo cpos (starEach (e :: es) X.env)).all (fun x => !x.1) && (backToKw cpos (keywordEach [] X.env)).all (fun x => x.1.isSome)
      && decide ((e :: es).length + ([] : List Keyword).length + (if ([] : List Keyword).isEmpty then 0 else 1) < 30)) = true)
    (hline : (apos.endLine == cpos.line) = true) (hs : starEach (e :: es) X.env = (false, eval e X.env) :: starEach es X.env) (hplain : (backTo cpos (starEach es X.env)).any (·.1) = false) :
    PE X (.Call (.Attribute o name apos) (e :: es) [] cpos) (fun σ H Q => to σ H fun x H1 => tk x H1 ∧ t σ H1 fun xs H2 => r x xs H2 Q) := by
  refine ⟨fun pins s σ H Q I h => ?_⟩
  refine wpAny_Call_method_late hbase hfew hline rfl (thn (ho.run pins s σ H _ I h) fun v s1 ⟨x, H1, I1, r1, ty, q1⟩ => ?_)
  obtain ⟨T, id, pa, sl, hty, h1, h2, hgo⟩ := htk pins s1 σ H1 x v I1 r1 ty
  refine ⟨T, id, pa, sl, hty, h1, h2, ?_⟩
  have hA := ha.run cpos pins s1 σ H1 _ I1 q1
  rw [hs] at hA ⊢
  refine Calls.callWith_builtin (by show (false || (backTo cpos (starEach es X.env)).any (·.1)) = false; rw [hplain] <;> rfl) (Calls.evalArgs_plain ?_)
  exact thn hA fun us s2 ⟨vs, H2, I2, r2, q2⟩ => hgo pins s2 σ H2 vs us Q I2 r2 q2
theorem TupAt.obj {pins : List (Addr × Obj)} {s : Shared} {σ : L2.St} {H : Hp} {a : Addr} {xs : List V} (I : Inv X pins σ H s) (h : TupAt X.K H a xs) : s.TypeIs (.ref a) "tuple" ∧ ∃ ob, s.heap.get? a = some ob ∧ ob.dict = none := by
  rcases h.2 with ⟨o, e, d, c⟩ | ⟨o, its, n, e, c, d, _⟩
  · have ho := (I.hok a _ e).1
    exact ⟨⟨o, ho, c⟩, o, ho, d⟩
  · exact ⟨⟨o, I.kIn a o e, c⟩, o, I.kIn a o e, d⟩
def rIdx (K : PySem.W.Frag) : V → List V → Hp → VK → Prop := fun x vs H Q => ∃ (a : Addr) (ns : List Int) (k : Int), x = .ref a ∧ vs = [.int k] ∧ TupAt K H a (ns.map V.int) ∧ k ∈ ns ∧ Q (.int (ns.idxOf k : Nat)) H
theorem idx_items {A : Around} {s : Shared} {k : Int} {t : Tok} : ∀ {ns : List Int} {us : List Value}, Vals (ns.map V.int) us → PySem.SeqAt.ItemsEq A s us ns (.int k t) k := by
  intro ns us h
  refine ⟨by rw [← h.length, List.length_map], fun j h1 h2 => ?_⟩
  have e1 : (ns.map V.int)[j]? = some (V.int ns[j]) := by rw [List.getElem?_map, List.getElem?_eq_getElem h2]; rfl
  obtain ⟨u, e2, r⟩ := h.get e1
  rw [List.getElem?_eq_getElem h1] at e2
  cases e2
  obtain ⟨t', e3⟩ := r
  rw [e3]
  have := PySem.SeqAt.EqAt.int_int (A := A) (s := s) ns[j] t' k t
  have e4 : (ns[j] == k) = decide (ns[j] = k) := by
    by_cases h : ns[j] = k
    · rw [h]; simp
    · rw [decide_eq_false h]; exact beq_eq_false_iff_ne.mpr h
  rwa [e4] at this
theorem idx_tk (pins : List (Addr × Obj)) (s : Shared) (σ : L2.St) (H : Hp) (x : V) (v : Value) (I : Inv X pins σ H s) (rx : RelV x v) (h : ∃ a xs, x = .ref a ∧ TupAt X.K H a xs) :
    ∃ T id, PlainAttrs T ∧ PySem.Slot T "index" id ∧ typeOf (.builtin id) = pure (.type "method_descriptor") ∧ s.TypeIs v T ∧ (∀ a, v = .ref a → ∃ ob, s.heap.get? a = some ob ∧ ob.dict = none) ∧
        ∀ (pins : List (Addr × Obj)) (s2 : Shared) (σ : L2.St) (H2 : Hp) (xs : List V) (us : List Value) (Q : VK), Inv X pins σ H2 s2 → Vals xs us → rIdx X.K x xs H2 Q → wpAny (model X.prog X.w) X.A (call (.builtin id) (v :: us)) (EP X pins σ Q) X.xe s2 := by
  obtain ⟨a, xs, rfl, ha⟩ := h
  cases rx
  obtain ⟨h1, h2⟩ := ha.obj I
  refine ⟨"tuple", "tuple.index", PySem.F.plainAttrs_tuple, PySem.F.slot_tuple_index, PySem.F.type_tuple_index, h1, fun b e => by cases e; exact h2, ?_⟩
  intro pins s2 σ H2 ys us Q I2 rv hq
  obtain ⟨b, ns, k, e, e2, hb, hk, q⟩ := hq
  cases e
  subst e2
  obtain ⟨u, rfl, ru⟩ := rv.one
  obtain ⟨t, rfl⟩ := ru
  obtain ⟨its, r, ht, hz⟩ := I2.tuple hb.sq
  exact PySem.SeqAt.call_tuple_index ht (idx_items r) hk ⟨.int _, H2, I2.tok _, ⟨_, rfl⟩, q⟩
theorem pe_index {o : Expr} {apos cpos : Pos} (ho : PE X o (EV X C W false a')) (hb : PE X b (EV X C W false b'))
    (hbase : attributeBase o "index" X.env (eval o X.env) = eval o X.env)
    (hfew : ((backTo cpos (starEach [b] X.env)).all (fun x => !x.1) && (backToKw cpos (keywordEach [] X.env)).all (fun x => x.1.isSome)
      && decide ([b].length + ([] : List Keyword).length + (if ([] : List Keyword).isEmpty then 0 else 1) < 30)) = true)
    (hline : (apos.endLine == cpos.line) = true) (hs : starEach [b] X.env = (false, eval b X.env) :: starEach [] X.env) (hplain : (backTo cpos (starEach [] X.env)).any (·.1) = false) :
    PE X (.Call (.Attribute o "index" apos) [b] [] cpos) (EV X C W false (.index a' b')) := by
  refine PE.imp (pe_mt (r := rIdx X.K) ho (pa_cons hb pa_nil hs) _ idx_tk hbase hfew hline hs hplain) fun σ H Q ⟨Z, F, env, r, h⟩ => ?_
  simp only [ev] at h
  refine ⟨Z, F, env, r, ?_⟩
  cases h1 : ev C a' env with
  | ok x e1 =>
    rw [h1] at h
    simp only at h
    intro F1 H1 v s1 r1 q1
    rw [Val.ff] at q1
    split at h
    · rename_i hx
      cases q1 with
      | tup ha ra =>
        refine ⟨⟨_, _, rfl, ha.mono r1.fh⟩, Z, F1, e1, r1, ?_⟩
        cases h2 : ev C b' e1 with
        | ok y e2 =>
          rw [h2] at h
          intro F2 H2 u s2 r2 q2
          rw [Val.ff] at q2
          obtain ⟨d, e3, h⟩ := okr_of h
          obtain ⟨xs, e4, e5⟩ := bind_none e3
          cases e4
          obtain ⟨ns, e6, e7⟩ := bind_none e5
          obtain ⟨k, e8, e9⟩ := bind_none e7
          cases int?_eq e8
          cases q2
          rw [ints?_eq e6] at ra
          rw [ra.ofInts] at ha
          split at e9
          · rename_i hk
            cases e9
            exact ⟨_, ns, k, rfl, rfl, (ha.mono s2).mono r2.fh, hk, h F2 H2 _ (s1.trans s2) r2 (by rw [Val.ff]; exact .int _)⟩
          · cases e9
        | exc c e2 => rw [h2] at h; exact kX.mono (F := F) h s1
        | stuck => rw [h2] at h; exact h.elim
      | _ => cases hx
    · exact h.elim
  | exc c e1 => rw [h1] at h; exact h
  | stuck => rw [h1] at h; exact h.elim
/-! a place's list changed -/
theorem own_list {Z : Ent} {F H : Hp} {env : Env} {σ : L2.St} {i : Nat} {xs : List D} (r : R X.K Z F env σ H) (h : ownD (slot env i) = some (.list xs)) :
    ∃ a vs, σ[i]? = some (some (.ref a)) ∧ H a = some (.lst vs) ∧ vs.length ≤ sizeLine ∧ Reps X.K F xs vs := by
  obtain ⟨a, e1, q, _⟩ := r.ow i _ _ (slot_ownD h) h
  obtain ⟨vs, e, z, rr⟩ := q
  exact ⟨a, vs, e1, e, z, rr⟩
theorem own_ty {Z : Ent} {F H : Hp} {env : Env} {σ : L2.St} {i : Nat} (r : R X.K Z F env σ H) (h : (ownD (slot env i)).isSome = true) : ∃ a, σ[i]? = some (some (.ref a)) ∧ tyV X.K "list" (.ref a) H := by
  obtain ⟨d, e⟩ := Option.isSome_iff_exists.mp h
  obtain ⟨a, e1, q, _⟩ := r.ow i _ _ (slot_ownD e) e
  cases d with
  | list xs => obtain ⟨vs, e, z, rr⟩ := q; exact ⟨a, e1, .inl ⟨rfl, vs, .inl (.inl e)⟩⟩
  | _ => exact q.elim
theorem own_put {Z : Ent} {F H : Hp} {env : Env} {σ : L2.St} {i : Nat} {d : D} {a : Addr} {ys : List D} {ws : List V} (r : R X.K Z F env σ H) (h : ownD (slot env i) = some d) (ha : σ[i]? = some (some (.ref a))) (z : ws.length ≤ sizeLine) (q : Reps X.K F ys ws) :
    R X.K Z F (env.set i (reOwn (slot env i) (.list ys))) σ (upd H a (.lst ws)) := r.mut h ha ⟨ws, upd_same, z, q⟩
section
variable {o : Expr} {apos cpos : Pos} {i : Nat}
theorem pe_app (ho : PE X o (tVar i)) (hb : PE X b (EV X C W false b'))
    (hbase : attributeBase o "append" X.env (eval o X.env) = eval o X.env)
    (hfew : ((backTo cpos (starEach [b] X.env)).all (fun x => !x.1) && (backToKw cpos (keywordEach [] X.env)).all (fun x => x.1.isSome)
      && decide ([b].length + ([] : List Keyword).length + (if ([] : List Keyword).isEmpty then 0 else 1) < 30)) = true)
    (hline : (apos.endLine == cpos.line) = true) (hs : starEach [b] X.env = (false, eval b X.env) :: starEach [] X.env) (hplain : (backTo cpos (starEach [] X.env)).any (·.1) = false) {σ : L2.St} {H : Hp} {Z : Ent} {F : Hp} {env : Env} {Q : Hp → Prop} (r : R X.K Z F env σ H)
    (h : Okr (exec C (.app i b') env) (fun f e => f = .next ∧ ∀ F' H', Same F F' → R X.K Z F' e σ H' → Q H') (kX X.K W Z F σ)) (pins : List (Addr × Obj)) (s : Shared) (I : Inv X pins σ H s) :
    wpAny (model X.prog X.w) X.A (eval (.Call (.Attribute o "append" apos) [b] [] cpos) X.env) (EP X pins σ fun _ H => Q H) X.xe s := by
  refine (pe_bm PySem.F.plainAttrs_list PySem.F.slot_list_append PySem.F.type_list_append mt_append ho (pa_cons hb pa_nil hs) hbase hfew hline hs hplain).run pins s σ H _ I ?_
  simp only [exec] at h
  split at h
  · rename_i hi
    obtain ⟨a, e1, ty⟩ := own_ty r hi
    refine ⟨.ref a, e1, ty, Z, F, env, r, ?_⟩
    cases h1 : ev C b' env with
    | ok y e2 =>
      rw [h1] at h
      simp only at h
      intro F1 H1 v s1 r1 q1
      rw [Val.ff] at q1
      split at h
      · rename_i xs hx
        split at h
        · rename_i hz
          have hz : xs.length < big := of_decide_eq_true hz
          obtain ⟨h, q⟩ := h
          obtain ⟨a', vs, e3, e4, z, rr⟩ := own_list r1 hx
          rw [e1] at e3
          cases e3
          have hl := rr.length
          have hb := big_le
          exact ⟨a, vs, v, rfl, rfl, e4, by omega, q F1 _ s1 (own_put r1 hx e1 (by rw [List.length_append, List.length_singleton]; omega) (rr.snoc q1))⟩
        · exact h.elim
      · exact h.elim
    | exc c e2 => rw [h1] at h; exact h
    | stuck => rw [h1] at h; exact h.elim
  · exact h.elim
theorem pe_popAt (ho : PE X o (tVar i)) (hb : PE X b (EV X C W false b'))
    (hbase : attributeBase o "pop" X.env (eval o X.env) = eval o X.env)
    (hfew : ((backTo cpos (starEach [b] X.env)).all (fun x => !x.1) && (backToKw cpos (keywordEach [] X.env)).all (fun x => x.1.isSome)
      && decide ([b].length + ([] : List Keyword).length + (if ([] : List Keyword).isEmpty then 0 else 1) < 30)) = true)
    (hline : (apos.endLine == cpos.line) = true) (hs : starEach [b] X.env = (false, eval b X.env) :: starEach [] X.env) (hplain : (backTo cpos (starEach [] X.env)).any (·.1) = false) :
    PE X (.Call (.Attribute o "pop" apos) [b] [] cpos) (EV X C W false (.popI i b')) := by
  refine PE.imp (pe_bm PySem.F.plainAttrs_list PySem.F.slot_list_pop PySem.F.type_list_pop mt_popAt ho (pa_cons hb pa_nil hs) hbase hfew hline hs hplain) fun σ H Q ⟨Z, F, env, r, h⟩ => ?_
  simp only [ev] at h
  split at h
  · rename_i hi
    obtain ⟨a, e1, ty⟩ := own_ty r hi
    refine ⟨.ref a, e1, ty, Z, F, env, r, ?_⟩
    cases h1 : ev C b' env with
    | ok y e2 =>
      rw [h1] at h
      simp only at h
      intro F1 H1 v s1 r1 q1
      rw [Val.ff] at q1
      split at h
      · rename_i xs j hx
        split at h
        · rename_i y hy
          split at h
          · rename_i hj
            obtain ⟨a', vs, e3, e4, z, rr⟩ := own_list r1 hx
            rw [e1] at e3
            cases e3
            cases q1
            have hl := rr.length
            have hy2 : xs[j.toNat]? = some y ∧ j < xs.length := by
              unfold atD at hy
              rw [if_pos hj] at hy
              split at hy
              · rename_i h2; exact ⟨hy, h2⟩
              · cases hy
            obtain ⟨v, hv, qv⟩ := rr.get hy2.1
            have hjl : j.toNat < vs.length := by omega
            rw [sizeLine_eq] at z
            have hp : vs.length ≤ sizeLine := by rw [sizeLine_eq]; exact z
            refine ⟨a, vs, j, j.toNat, v, rfl, rfl, e4, by omega, by omega, ?_, hv, h F1 _ v s1 (own_put r1 hx e1 (Nat.le_trans (len_erase _ _) hp) (rr.eraseIdx _)) (by rw [Val.ff]; exact qv)⟩
            unfold seqIndex?
            simp only [if_neg (show ¬ j < 0 by omega)]
            rw [if_pos (by rw [Bool.and_eq_true]; exact ⟨decide_eq_true hj, decide_eq_true (by omega)⟩)]
          · exact h.elim
        · exact h.elim
      · exact h.elim
    | exc c e2 => rw [h1] at h; exact h
    | stuck => rw [h1] at h; exact h.elim
  · exact h.elim
theorem pe_pop0 (ho : PE X o (tVar i)) (hbase : attributeBase o "pop" X.env (eval o X.env) = eval o X.env) (hline : (apos.endLine == cpos.line) = true) :
    PE X (.Call (.Attribute o "pop" apos) [] [] cpos) (EV X C W false (.pop i)) := by
  refine PE.imp (pe_bm0 PySem.F.plainAttrs_list PySem.F.slot_list_pop PySem.F.type_list_pop mt_pop ho hbase hline) fun σ H Q ⟨Z, F, env, r, h⟩ => ?_
  simp only [ev] at h
  split at h
  · rename_i xs hx
    split at h
    · rename_i y hy
      obtain ⟨a, vs, e3, e4, z, rr⟩ := own_list r hx
      obtain ⟨a', e1, ty⟩ := own_ty r (by rw [hx]; rfl)
      rw [e3] at e1
      cases e1
      rw [List.getLast?_eq_getElem?] at hy
      obtain ⟨v, hv, qv⟩ := rr.get hy
      refine ⟨.ref a, e3, ty, a, vs, v, rfl, rfl, e4, by rw [rr.length]; exact hv, ?_⟩
      exact h F _ v (Same.refl F) (own_put r hx e3 (by rw [List.length_dropLast]; omega) rr.dropLast) (by rw [Val.ff]; exact qv)
    · exact h.elim
  · exact h.elim
end
end
end BT
namespace BT
open PySem PySem.Spec PyProof.Rows L2
/-! ## list(range(..)), tuple(range(..)) -/
theorem reps_rg {K : PySem.W.Frag} {F : Hp} (a b : Int) : Reps K F (rngL a (b - a).toNat) (rgV a b) := by
  unfold rngL rgV
  have h : ∀ l : List Nat, Reps K F (l.map fun i : Nat => PyData.int (a + (i : Int))) (l.map fun i : Nat => V.int (a + (i : Nat))) := fun l => by
    induction l with
    | nil => exact .nil
    | cons x l ih => exact .cons (.int _) ih
  exact h _
theorem smallR_iff {n : Int} (h : smallR n = true) : -1000000 ≤ n ∧ n ≤ 1000000 := of_decide_eq_true h
theorem rgTwo {m n : Int} (h1 : smallR m = true) (h2 : smallR n = true) : RgOk m n := by
  have := smallR_iff h1
  have := smallR_iff h2
  exact ⟨by omega, by omega, by omega, by omega, by omega⟩
theorem rg_len {a b : Int} (h : RgOk a b) : (rgV a b).length ≤ sizeLine := by
  rw [rgV_length, sizeLine_eq]
  have := h.2.2.2.2
  omega
section
variable {X : Cx} {C : Calls} {W : WX} {a b c e : Expr} {es : List Expr} {a' b' c' : IE} {as' : IEs} {pos p p2 pos2 : Pos}
theorem pe_lrg {fr : Bool} (hc : X.calm = true) (hgl : Gl X "list") (hml : X.mg "list" = none) (hgr : Gl X "range") (hmr : X.mg "range" = none) (ha : PE X a (EV X C W false a'))
    (na : starEach [a] X.env = (false, eval a X.env) :: starEach [] X.env) (nb : starEach [.Call (.Name "range" p2) [a] [] pos2] X.env = (false, eval (.Call (.Name "range" p2) [a] [] pos2) X.env) :: starEach [] X.env) :
    PE X (.Call (.Name "list" p) [.Call (.Name "range" p2) [a] [] pos2] [] pos) (EV X C W fr (.lrg a')) := by
  refine PE.imp (pe_listRg hc hgl hml (prg_1 hgr hmr ha na) nb) fun σ H Q ⟨Z, F, env, r, h⟩ => ?_
  refine one_v (k := kP X.K fr Q Z F σ) r (fun r => match r with | .ok x e1 => ofO ((int? x).bind fun n => if smallR n then some (.list (rngL 0 n.toNat)) else none) e1 | r => r) (fun x e1 => ofO ((int? x).bind fun n => if smallR n then some (.list (rngL 0 n.toNat)) else none) e1)
    (fun _ _ => rfl) (fun _ _ => rfl) rfl (by simp only [ev] at h; exact h) fun x e1 F1 H1 v h s1 r1 q1 => ?_
  obtain ⟨d, e3, h⟩ := okr_of h
  obtain ⟨n, e4, e5⟩ := bind_none e3
  cases int?_eq e4
  cases q1
  split at e5
  · rename_i hz
    cases e5
    have ok := rgTwo (m := 0) (n := n) (by decide) hz
    have rr := reps_rg (K := X.K) (F := F1) 0 n
    rw [Int.sub_zero] at rr
    exact ⟨n, rfl, ok, fun q hq => (out_of r1 s1 h).2.1 q _ _ rfl hq (rg_len ok) rr⟩
  · cases e5
theorem pe_lrg2 {fr : Bool} (hc : X.calm = true) (hgl : Gl X "list") (hml : X.mg "list" = none) (hgr : Gl X "range") (hmr : X.mg "range" = none) (ha : PE X a (EV X C W false a')) (hb : PE X b (EV X C W false b'))
    (na : starEach [a, b] X.env = (false, eval a X.env) :: starEach [b] X.env) (nc : starEach [b] X.env = (false, eval b X.env) :: starEach [] X.env) (hp : (backTo pos2 (starEach [b] X.env)).any (·.1) = false)
    (nb : starEach [.Call (.Name "range" p2) [a, b] [] pos2] X.env = (false, eval (.Call (.Name "range" p2) [a, b] [] pos2) X.env) :: starEach [] X.env) :
    PE X (.Call (.Name "list" p) [.Call (.Name "range" p2) [a, b] [] pos2] [] pos) (EV X C W fr (.lrg2 a' b')) := by
  refine PE.imp (pe_listRg hc hgl hml (prg_2 hgr hmr ha hb na nc hp) nb) fun σ H Q ⟨Z, F, env, r, h⟩ => ?_
  refine two_v (k := kP X.K fr Q Z F σ) r (fun r m => match r with
    | .ok x e1 => match m e1 with
      | .ok y e2 => ofO ((int? x).bind fun m => (int? y).bind fun n => if smallR m && smallR n then some (.list (rngL m (n - m).toNat)) else none) e2
      | r => r
    | r => r) (fun x y e2 => ofO ((int? x).bind fun m => (int? y).bind fun n => if smallR m && smallR n then some (.list (rngL m (n - m).toNat)) else none) e2)
    (fun x e m => by simp only; cases m e <;> rfl) (fun _ _ _ => rfl) (fun _ => rfl) (by simp only [ev] at h; exact h) fun x y e2 F2 H2 v u h s1 r1 q1 q2 => ?_
  obtain ⟨d, e3, h⟩ := okr_of h
  obtain ⟨m, e4, e5⟩ := bind_none e3
  obtain ⟨n, e6, e7⟩ := bind_none e5
  cases int?_eq e4
  cases int?_eq e6
  cases q1
  cases q2
  split at e7
  · rename_i hz
    cases e7
    rw [Bool.and_eq_true] at hz
    have ok := rgTwo hz.1 hz.2
    exact ⟨m, n, rfl, rfl, ok, fun q hq => (out_of r1 s1 h).2.1 q _ _ rfl hq (rg_len ok) (reps_rg m n)⟩
  · cases e7
def tTupRgF (te : L2.St → Hp → (Int → Int → Hp → Prop) → Prop) : TE := fun σ H Q => te σ H fun a b H1 => RgOk a b ∧ ∀ q o, H1 q = none → o.dict = none → o.cls = .type "tuple" → Q (.ref q) (upd H1 q (.frz o (.tup (rgV a b))))
theorem pe_tupRgF {te : L2.St → Hp → (Int → Int → Hp → Prop) → Prop} (hc : X.calm = true) (hg : Gl X "tuple") (hm : X.mg "tuple" = none) (he : PRg X e te) (na : starEach [e] X.env = (false, eval e X.env) :: starEach [] X.env) : PE X (.Call (.Name "tuple" p) [e] [] pos) (tTupRgF te) := by
  refine ⟨fun pins s σ H Q I h => Call_ (ld_blt I hg hm boot_tuple (PyProof.Rows.callWith_type1 (args_cons (thn (he pins s σ H _ I h) fun x s1 ⟨r, a, b, t, u, v, H1, ex, hr, I1, ok, q⟩ => args_nil ?_) na) na))⟩
  subst ex
  refine call_tuple_range (n := (b - a).toNat) (I1.ok.hd hc) hr (small_one ok.1 ok.2.1 ok.2.2.1 ok.2.2.2.1) (rangeSize_nat a b) ok.2.2.2.2 fun h' tk acc hk hi => ?_
  have I2 : Inv X pins σ H1 { s1 with heap := h', toks := tk } := I1.kept hk
  have hn := tupNew I2 (vals_rg hi) (rg_len ok) tk fun p o hp hd hcl => q p o hp hd hcl
  rw [Array.toArray_toList] at hn
  exact hn
theorem pe_trg (hc : X.calm = true) (hgl : Gl X "tuple") (hml : X.mg "tuple" = none) (hgr : Gl X "range") (hmr : X.mg "range" = none) (ha : PE X a (EV X C W false a'))
    (na : starEach [a] X.env = (false, eval a X.env) :: starEach [] X.env) (nb : starEach [.Call (.Name "range" p2) [a] [] pos2] X.env = (false, eval (.Call (.Name "range" p2) [a] [] pos2) X.env) :: starEach [] X.env) :
    PE X (.Call (.Name "tuple" p) [.Call (.Name "range" p2) [a] [] pos2] [] pos) (EV X C W false (.trg a')) := by
  refine PE.imp (pe_tupRgF hc hgl hml (prg_1 hgr hmr ha na) nb) fun σ H Q ⟨Z, F, env, r, h⟩ => ?_
  refine one_v (k := kP X.K false Q Z F σ) r (fun r => match r with | .ok x e1 => ofO ((int? x).bind fun n => if smallR n then some (.tuple (rngL 0 n.toNat)) else none) e1 | r => r) (fun x e1 => ofO ((int? x).bind fun n => if smallR n then some (.tuple (rngL 0 n.toNat)) else none) e1)
    (fun _ _ => rfl) (fun _ _ => rfl) rfl (by simp only [ev] at h; exact h) fun x e1 F1 H1 v h s1 r1 q1 => ?_
  obtain ⟨d, e3, h⟩ := okr_of h
  obtain ⟨n, e4, e5⟩ := bind_none e3
  cases int?_eq e4
  cases q1
  split at e5
  · rename_i hz
    cases e5
    have ok := rgTwo (m := 0) (n := n) (by decide) hz
    have rr := reps_rg (K := X.K) (F := F1) 0 n
    rw [Int.sub_zero] at rr
    exact ⟨n, rfl, ok, fun q o hq hd hcl => (out_of r1 s1 h).2.2 q o _ _ rfl hq (rg_len ok) hd hcl rr⟩
  · cases e5

/-! ## calls -/
/-- a call's end, told from the caller's side -/
structure CallE (K : PySem.W.Frag) (F H : Hp) (ex : Option Addr) (s' : D) (F' H' : Hp) : Prop where
  ff : Same F F'
  fh : Same F' H'
  hk : ∀ b o, H b = some o → ex ≠ some b → H' b = some o
  fn : ∀ b o, H b = some o → F' b = F b
  xo : ∀ a, ex = some a → Own K F' H' s' a
def CallV (K : PySem.W.Frag) (H : Hp) (fresh : Bool) (F' H' : Hp) (d : D) (v : V) : Prop :=
  if fresh = true then ∃ p, v = .ref p ∧ Own K F' H' d p ∧ F' p = none ∧ H p = none else Rep K F' d v
/-- what a def promises: what its small text gives -/
def spC (K : PySem.W.Frag) (cv : String → Value) (inout fresh : Bool) (n : Nat) (m : List D → D → CR) : Sp := fun vs H Q E =>
  ∃ F ds s ex xs, Same F H ∧ Reps K F ds xs ∧ ds.length = n ∧
    (if inout = true then ∃ a, ex = some a ∧ vs = .ref a :: xs ∧ Own K F H s a ∧ F a = none else ex = none ∧ vs = xs ∧ s = .none) ∧
    match m ds s with
    | .ok d s' => ∀ F' H' v, CallE K F H ex s' F' H' → CallV K H fresh F' H' d v → Q v H'
    | .exc c s' => ∀ F' H', CallE K F H ex s' F' H' → E (cv c) none H'
    | .stuck => False
theorem spC_len {K : PySem.W.Frag} {cv : String → Value} {inout fresh : Bool} {n : Nat} {m : List D → D → CR} {ps : List Str} (hp : ps.length = n + (if inout then 1 else 0)) (vs : List V) (H : Hp) (Q : VK) (E : XK) (h : spC K cv inout fresh n m vs H Q E) : vs.length = ps.length := by
  obtain ⟨F, ds, s, ex, xs, _, r, l, h, _⟩ := h
  have := r.length
  cases inout with
  | true =>
    rw [if_pos rfl] at h
    obtain ⟨a, _, rfl, _⟩ := h
    rw [hp, List.length_cons, this, l] <;> rfl
  | false =>
    rw [if_neg Bool.false_ne_true] at h
    obtain ⟨_, rfl, _⟩ := h
    rw [hp, this, l] <;> rfl
/-- the wish of an exception in a callee -/
def xk (cv : String → Value) (W : WX) : XK := fun cls d H => d = none ∧ ∃ c, cls = cv c ∧ W c H
theorem CallE.after {K : PySem.W.Frag} {Z : Ent} {F H F' H' : Hp} {env : Env} {σ : L2.St} {s' : D} (c : CallE K F H none s' F' H') (r : R K Z F env σ H) : R K Z F' env σ H' :=
  r.after c.ff c.fh (fun b o e => c.hk b o e (by simp)) c.fn
/-- the value of a call, its list new -/
theorem callV_val {K : PySem.W.Frag} {Z : Ent} {F H F' H' : Hp} {env env' : Env} {σ : L2.St} {d : D} {v : V} {fr fresh : Bool} {P : V → Prop} (r : R K Z F env σ H) (r' : R K Z F' env' σ H') (hv : CallV K H fresh F' H' d v)
    (ho : ∀ (i : Nat) (x : BT.Slot) (d : D), env'[i]? = some x → ownD x = some d → ∃ x' d', env[i]? = some x' ∧ ownD x' = some d') (hf : fr = true → fresh = true)
    (k : ∀ F2 v, Same F' F2 → R K Z F2 env' σ H' → Val K Z F2 env' σ H' fr d v → P v) : P v := by
  unfold CallV at hv
  cases fresh with
  | true =>
    rw [if_pos rfl] at hv
    obtain ⟨p, rfl, ow, fp, hp⟩ := hv
    have fs : Fresh K Z F' env' σ H' d p := ⟨ow, fp, r.z0 hp, r.xn hp, fun i x d e e' e2 => by
      obtain ⟨x', d', e3, e4⟩ := ho i x d e e'
      obtain ⟨a, e5, q, _⟩ := r.ow i x' d' e3 e4
      rw [e2] at e5
      cases e5
      obtain ⟨o, eo⟩ := q.some
      rw [hp] at eo; cases eo⟩
    cases fr with
    | true =>
      refine k F' _ (Same.refl _) r' ?_
      unfold Val
      cases d with
      | list ds => rw [if_pos (show (true && isL (PyData.list ds)) = true from rfl)]; exact ⟨p, rfl, fs⟩
      | _ => exact ow.elim
    | false =>
      obtain ⟨r2, s2, q⟩ := r'.freeze fs
      exact k _ _ s2 r2 (by rw [Val.ff]; exact q)
  | false =>
    rw [if_neg Bool.false_ne_true] at hv
    refine k F' _ (Same.refl _) r' ?_
    cases fr with
    | true => exact absurd (hf rfl) Bool.false_ne_true
    | false => rw [Val.ff]; exact hv
theorem spC_mono {K : PySem.W.Frag} {cv : String → Value} {inout fresh : Bool} {n : Nat} {m : List D → D → CR} {vs : List V} {H : Hp} {Q : VK} {E E' : XK} (h : spC K cv inout fresh n m vs H Q E) (i : ∀ c d H, E c d H → E' c d H) : spC K cv inout fresh n m vs H Q E' := by
  obtain ⟨F, ds, s, ex, xs, a, b, c, d, hm⟩ := h
  refine ⟨F, ds, s, ex, xs, a, b, c, d, ?_⟩
  cases h1 : m ds s with
  | ok d s' => rw [h1] at hm; exact hm
  | exc c s' => rw [h1] at hm; exact fun F' H' ce => i _ _ _ (hm F' H' ce)
  | stuck => rw [h1] at hm; exact hm
/-- a def that may be called -/
structure FnAt (X : Cx) (CX : CXT) (cv : String → Value) (W : WX) (C : Calls) (x : Str) (f : String) (inout fresh : Bool) (n : Nat) : Prop where
  ex : ∃ k fa fd ps sp, FnOk X.prog X.w X.K X.mg X.base CX k fa fd ps sp ∧ (∀ (W' : WX), (∀ c H, W' c H → W c H) → ∀ vs H Q, spC X.K cv inout fresh n (C f) vs H Q (xk cv W') → sp vs H Q (xk cv W')) ∧ Room k X.A ∧ X.mg x = some (.ref fa) ∧ PySem.W.keepIn X.K (.ref fa) = true ∧ Binds X.K fd ps []
theorem call_read {cv : String → Value} {fresh fr : Bool} {n : Nat} {f : String} (ie : IE) (hi : ∀ env, ev C ie env = match evs C as' env with
    | .ok ds e1 => match C f ds .none with
      | .ok d _ => .ok d e1
      | .exc c _ => .exc c e1
      | .stuck => .stuck
    | .exc c e1 => .exc c e1
    | .stuck => .stuck) (hf : fr = true → fresh = true) (hl : lenEs as' = n) (σ : L2.St) (H : Hp) (Q : VK) (h : EV X C W fr ie σ H Q) : tCall (spC X.K cv false fresh n (C f)) [] (xk cv W) (EA X C W as') σ H Q := by
  obtain ⟨Z, F, env, r, h⟩ := h
  rw [hi] at h
  refine ⟨Z, F, env, r, ?_⟩
  cases h1 : evs C as' env with
  | ok ds e1 =>
    rw [h1] at h
    simp only at h
    intro F1 H1 vs s1 r1 q1
    rw [List.append_nil]
    refine ⟨F1, ds, .none, none, vs, r1.fh, q1, (evs_len h1).trans hl, ?_, ?_⟩
    · rw [if_neg Bool.false_ne_true]; exact ⟨rfl, rfl, rfl⟩
    · cases h2 : C f ds .none with
      | ok d s' =>
        rw [h2] at h
        intro F' H' v ce cv'
        have r2 := ce.after r1
        exact callV_val (fr := fr) r1 r2 cv' (fun i x d e e' => ⟨x, d, e, e'⟩) hf fun F2 v s2 r3 q => h F2 H' v (s1.trans (ce.ff.trans s2)) r3 q
      | exc c s' =>
        rw [h2] at h
        intro F' H' ce
        exact ⟨rfl, c, rfl, h F' H' (s1.trans ce.ff) (ce.after r1)⟩
      | stuck => rw [h2] at h; exact h.elim
  | exc c e1 => rw [h1] at h; exact h
  | stuck => rw [h1] at h; exact h.elim
theorem TA_imp {as' : IEs} {σ : L2.St} {H : Hp} {Q Q' : List V → Hp → Prop} (i : ∀ vs H, Q vs H → Q' vs H) (h : EA X C W as' σ H Q) : EA X C W as' σ H Q' := by
  obtain ⟨Z, F, env, r, h⟩ := h
  refine ⟨Z, F, env, r, ?_⟩
  cases h1 : evs C as' env with
  | ok ds e1 => rw [h1] at h; exact fun F' H' vs s' r' q => i _ _ (h F' H' vs s' r' q)
  | exc c e1 => rw [h1] at h; exact h
  | stuck => rw [h1] at h; exact h.elim
theorem pe_cl {CX : CXT} {cv : String → Value} {x : Str} {f : String} {fresh fr : Bool} {n : Nat} (F : FnAt X CX cv W C x f false fresh n) (ie : IE) (hi : ∀ env, ev C ie env = match evs C as' env with
    | .ok ds e1 => match C f ds .none with
      | .ok d _ => .ok d e1
      | .exc c _ => .exc c e1
      | .stuck => .stuck
    | .exc c e1 => .exc c e1
    | .stuck => .stuck) (hf : fr = true → fresh = true) (hg : Gl X x) (hx : Passes CX X (xk cv W)) (hl : lenEs as' = n) (ha : PA X (e :: es) (EA X C W as')) (hdb : (x == ("__debug__" : Str)) = false)
    (h1 : starEach (e :: es) X.env = (false, eval e X.env) :: starEach es X.env) (h2 : (backTo pos (starEach es X.env)).any (·.1) = false) : PE X (.Call (.Name x p) (e :: es) [] pos) (EV X C W fr ie) := by
  obtain ⟨k, fa, fd, ps, sp, fo, hsp, hr, hm, hk, hb⟩ := F.ex
  exact PE.imp (pe_call fo hr hg hm hk hb (dvs := []) .nil hx ha hdb h1 h2) fun σ H Q h => TA_imp (fun vs H1 q => hsp W (fun _ _ z => z) _ _ _ q) (call_read ie hi hf hl σ H Q h)
/-- f(x, ..), x's object changed -/
theorem pe_cs {CX : CXT} {cv : String → Value} {x : Str} {f : String} {fresh fr : Bool} {n i : Nat} (F : FnAt X CX cv W C x f true fresh n) (hf : fr = true → fresh = true) (hg : Gl X x) (hx : Passes CX X (xk cv W)) (hl : lenEs as' = n) (he : PE X e (tVar i)) (ha : PA X es (EA X C W as')) (hdb : (x == ("__debug__" : Str)) = false)
    (h1 : starEach (e :: es) X.env = (false, eval e X.env) :: starEach es X.env) (h2 : (backTo pos (starEach es X.env)).any (·.1) = false) : PE X (.Call (.Name x p) (e :: es) [] pos) (EV X C W fr (.callS f i as')) := by
  obtain ⟨k, fa, fd, ps, sp, fo, hsp, hr, hm, hk, hb⟩ := F.ex
  refine PE.imp (pe_call fo hr hg hm hk hb (dvs := []) .nil hx (pa_cons he ha h1) hdb h1 h2) fun σ H Q ⟨Z, F, env, r, h⟩ => ?_
  simp only [ev] at h
  split at h
  · rename_i hi
    obtain ⟨a, ea, ty⟩ := own_ty r hi
    refine ⟨.ref a, ea, Z, F, env, r, ?_⟩
    cases h1 : evs C as' env with
    | ok ds e1 =>
      rw [h1] at h
      simp only at h
      intro F1 H1 vs s1 r1 q1
      refine hsp W (fun _ _ z => z) _ _ _ ?_
      rw [List.append_nil]
      cases hs : ownD (slot e1 i) with
      | none => rw [hs] at h; exact h.elim
      | some s =>
        rw [hs] at h
        obtain ⟨a', ea', qo, fn, zo⟩ := r1.ow i _ _ (slot_ownD hs) hs
        rw [ea] at ea'
        cases ea'
        refine ⟨F1, ds, s, some a, vs, r1.fh, q1, (evs_len h1).trans hl, ?_, ?_⟩
        · rw [if_pos rfl]; exact ⟨a, rfl, rfl, qo, fn⟩
        · have aft : ∀ {s' : D} {F' H' : Hp}, CallE X.K F1 H1 (some a) s' F' H' → R X.K Z F' (e1.set i (reOwn (slot e1 i) s')) σ H' := fun {s' F' H'} ce =>
            r1.mutG hs ea (ce.xo a rfl) ce.ff ce.fh (fun b o e ne => ce.hk b o e fun z => ne (Option.some.inj z).symm) ce.fn
          simp only at h
          cases h2 : C f ds s with
          | ok d s' =>
            rw [h2] at h
            intro F' H' v ce cv'
            refine callV_val (fr := fr) r1 (aft ce) cv' (fun j x d e e' => ?_) hf fun F2 v s2 r3 q => h F2 H' v (s1.trans (ce.ff.trans s2)) r3 q
            rcases set_at e with ⟨z, _⟩ | ⟨_, e⟩
            · rw [z]; exact ⟨_, _, slot_ownD hs, hs⟩
            · exact ⟨x, d, e, e'⟩
          | exc c s' =>
            rw [h2] at h
            intro F' H' ce
            exact ⟨rfl, c, rfl, h F' H' (s1.trans ce.ff) (aft ce)⟩
          | stuck => rw [h2] at h; exact h.elim
    | exc c e1 => rw [h1] at h; exact h
    | stuck => rw [h1] at h; exact h.elim
  · exact h.elim
end
end BT
namespace BT
open PySem PySem.Spec PyProof.Rows L2
/-! ## what a loop walks: a list or a tuple (k), its items, its pairs -/
def SqB (k : Bool) (K : PySem.W.Frag) (H : Hp) (a : Addr) (xs : List V) : Prop := if k = true then SqT K H a xs else SqL K H a xs
def ItB (k : Bool) (h : Heap) (it a : Addr) (i : Nat) : Prop := if k = true then h.IsTupleIter it a i else h.IsListIter it a i
def SrcB (k : Bool) (h : Heap) (a : Addr) (us : List Value) : Prop := if k = true then h.IsTuple a us.toArray else h.IsList a us.toArray
section
variable {X : Cx} {pins : List (Addr × Obj)} {σ : L2.St} {H : Hp} {s : Shared} {k : Bool} {a : Addr} {xs : List V}
theorem SqB.read (I : Inv X pins σ H s) (h : SqB k X.K H a xs) : ∃ us, Vals xs us ∧ SrcB k s.heap a us := by
  cases k with
  | true =>
    obtain ⟨us, r, p, _⟩ := I.tuple (show SqT X.K H a xs from h)
    exact ⟨us, r, p⟩
  | false =>
    obtain ⟨us, r, p, _⟩ := I.list (show SqL X.K H a xs from h)
    exact ⟨us, r, p.isList⟩
theorem SqB.inj (I : Inv X pins σ H s) {ys : List V} (h : SqB k X.K H a xs) (h2 : SqB k X.K H a ys) : xs = ys := by
  cases k with
  | true => exact I.tuple_inj h h2
  | false => exact I.list_inj h h2
theorem ItB.obj {h : Heap} {it : Addr} {i : Nat} (x : ItB k h it a i) : ∃ o, h.get? it = some o ∧ ∀ v, o.data ≠ .cell v := by
  cases k with
  | true => obtain ⟨o, e, _, d⟩ := x; exact ⟨o, e, fun v z => by rw [d] at z; cases z⟩
  | false => obtain ⟨o, e, _, d⟩ := x; exact ⟨o, e, fun v z => by rw [d] at z; cases z⟩
theorem ItB.lay {h h' : Heap} {it : Addr} {i : Nat} (x : ItB k h it a i) (e : ∀ o, h.get? it = some o → h'.get? it = some o) : ItB k h' it a i := by
  cases k with
  | true => exact Heap.IsTupleIter.at x e
  | false => exact Heap.IsListIter.at x e
theorem draw_any {A : Around} (hh : A.handled = none) (k : Bool) (it a : Addr) (us : List Value) (ne : a ≠ it) :
    Draws X.prog X.w A it [it, a] us.toArray.size (fun i v => us.toArray[i]? = some v) (fun i h => ItB k h it a i ∧ SrcB k h a us) := by
  cases k with
  | true => exact Draws.tuple hh it a ne us.toArray
  | false => exact Draws.list hh it a ne us.toArray
/-- the object that iter of it makes -/
def itObj (k : Bool) (a : Addr) : Obj := if k = true then { cls := .type "tuple_iterator", data := .fields #[.ref a, .int 0 0] } else { cls := .type "list_iterator", data := .fields #[.ref a, .int 0 0] }
theorem begins_any (k : Bool) (a : Addr) (us : List Value) : Begins (.ref a) (itObj k a) fun h => SrcB k h a us := by
  cases k with
  | true => exact begins_tuple a us.toArray
  | false => exact begins_list a us.toArray
theorem itB_new {h : Heap} {it : Addr} (e : h.get? it = some (itObj k a)) : ItB k h it a 0 := by
  cases k with
  | true => exact ⟨_, e, rfl, rfl⟩
  | false => exact ⟨_, e, rfl, rfl⟩
theorem SrcB.lt {h : Heap} {us : List Value} (x : SrcB k h a us) : a < h.objs.size := by
  cases k with
  | true => obtain ⟨o, e, _⟩ := x; exact Heap.lt_size e
  | false => obtain ⟨o, e, _⟩ := x; exact Heap.lt_size e
theorem SrcB.lay {h h' : Heap} {us : List Value} (x : SrcB k h a us) (e : ∀ o, h.get? a = some o → h'.get? a = some o) : SrcB k h' a us := by
  cases k with
  | true => obtain ⟨o, e1, r⟩ := x; exact ⟨o, e o e1, r⟩
  | false => obtain ⟨o, e1, r⟩ := x; exact ⟨o, e o e1, r⟩
end

/-! ### enumerate -/
def ItEn (K : PySem.W.Frag) (k : Bool) (a : Addr) : L2.It where
  go i H := ∃ (xs : List V) (x : V), SqB k K H a xs ∧ xs[i]? = some x
  yld i H v H' := ∃ T x, v = .ref T ∧ H T = none ∧ H' = upd H T (.tup [.int (i : Nat), x]) ∧ ∀ xs, SqB k K H a xs → xs[i]? = some x
  stop i H := ∃ xs : List V, SqB k K H a xs ∧ xs.length = i
theorem turn_en {P : Program} {w : World} {K : PySem.W.Frag} {elts : List Expr} {kk : Nat} {tpos : Pos} (k : Bool) (a e it : Addr) (nea : a ≠ it) (nee : a ≠ e) (ne : e ≠ it) :
    Turn P w K (.Tuple elts kk tpos) (ItEn K k a) [e, it] e (fun i h => (∃ old, IsEnum h e it ((i : Nat) : Int) old) ∧ ItB k h it a i) where
  mem := List.mem_cons_self ..
  obj i h st b hb := by
    obtain ⟨⟨old, he⟩, hi⟩ := st
    rcases List.mem_cons.mp hb with z | z
    · subst z; exact ⟨_, he, fun v q => nomatch q⟩
    · rw [List.mem_singleton.mp z]; exact hi.obj
  keep i h h' st kp := ⟨st.1.imp fun old he => kp e (List.mem_cons_self ..) _ he, st.2.lay fun o q => kp it (List.mem_cons_of_mem _ (List.mem_cons_self ..)) o q⟩
  item := by
    intro X hP hw hK hc i pins s σ H E I hf st hg
    subst hP hw hK
    obtain ⟨⟨old, he⟩, hit⟩ := st
    obtain ⟨xs, x, hq, hx⟩ := hg
    obtain ⟨us, rv, src⟩ := hq.read I
    obtain ⟨u, hu, ru⟩ := rv.get hx
    have lt : i < us.toArray.size := by
      rw [List.size_toArray]
      exact (List.getElem?_eq_some_iff.mp hu).1
    have hA : X.A.in1.handled = none := I.ok.hd hc
    have el : e < s.heap.objs.size := Heap.lt_size he
    have il : it < s.heap.objs.size := by obtain ⟨o, q, _⟩ := hit.obj; exact Heap.lt_size q
    refine wpAny_pyNext_enum_itemD (draw_any hA k it a us nea) he ⟨hit, src⟩ lt ne (fun m => ?_) fun y h' tk hy ho st' hT hz hk => ?_
    · rcases List.mem_cons.mp m with z | z
      · exact ne z
      · exact nee (List.mem_singleton.mp z).symm
    have hyu : y = u := by
      have q : us.toArray[i]? = some u := by rw [← Array.getElem?_toList]; exact hu
      rw [q] at hy
      exact (Option.some.inj hy).symm
    rw [hyu] at ho hT
    refine ⟨_, rfl, wpAny_letOwnedTupleGo_enum (s := { s with heap := h', toks := tk + 1 }) ho fun h2 he2 sb => ?_⟩
    have hT2 : h2.get? s.heap.objs.size = some { cls := .type "tuple", data := .seq #[.int i tk, u] } := (sb.2 _ (Nat.ne_of_gt el)).trans hT
    have nw : ObjOk X.prog X.w (upd H s.heap.objs.size (.tup [.int (i : Nat), x])) h2 s.heap.objs.size (.tup [.int (i : Nat), x]) :=
      ⟨by show 2 ≤ sizeLine; decide, [.int i tk, u], .cons ⟨_, rfl⟩ (.cons ru .nil), ⟨_, hT2, rfl, _, rfl⟩⟩
    have I1 : Inv X pins σ (upd H s.heap.objs.size (.tup [.int (i : Nat), x])) { s with heap := h2, toks := tk + 1 } :=
      I.turnedNew (ch := [e, it]) (fun b ob hb q => (sb.2 b fun z => hb (by rw [z]; exact List.mem_cons_self ..)).trans (hk b ob (fun z => hb (by rw [z]; exact List.mem_cons_self ..)) (fun z => hb (by rw [z]; exact List.mem_cons_of_mem _ (List.mem_cons_self ..))) q)) hf (Nat.le_refl _) nw
    refine ⟨.ref s.heap.objs.size, _, I1, rfl, ⟨_, x, rfl, I.hok.fresh (Nat.le_refl _), rfl, fun ys hy => by rw [SqB.inj I hy hq]; exact hx⟩, ⟨⟨u, ?_⟩, st'.1.lay fun o q => (sb.2 it (Ne.symm ne)).trans q⟩, fun b hb => ?_⟩
    · rw [show ((i + 1 : Nat) : Int) = (i : Int) + 1 by omega]; exact he2
    · have lb : b < s.heap.objs.size := by
        rcases List.mem_cons.mp hb with z | z
        · rw [z]; exact el
        · rw [List.mem_singleton.mp z]; exact il
      rw [upd_ne (Nat.ne_of_lt lb)]
      exact (hf b hb).1
  done := by
    intro X hP hw hK hc i pins s σ H E I hf st hg
    subst hP hw hK
    obtain ⟨⟨old, he⟩, hit⟩ := st
    obtain ⟨xs, hq, hx⟩ := hg
    obtain ⟨us, rv, src⟩ := hq.read I
    have hA : X.A.in1.handled = none := I.ok.hd hc
    have hz : us.toArray.size = i := by rw [List.size_toArray, ← rv.length]; exact hx
    obtain ⟨f0, f1, f2, f3, f4, f5⟩ := hf it (List.mem_cons_of_mem _ (List.mem_cons_self ..))
    exact wpAny_pyNext_enum_endD (draw_any hA k it a us nea) he (by rw [hz]; exact ⟨hit, src⟩) fun h' eb => ⟨rfl, I.turned (t' := s.toks) (fun b o hb q => eb b o hb q) f0 f1 f3 f4 f5⟩
  self := fun A i s Q E st h => let ⟨⟨_, he⟩, _⟩ := st; wpAny_pyIter_enum he h
theorem meets_en1 {v : Value} {o : Obj} {Hh : Heap → Prop} (B : Begins v o Hh) :
    Meets (Builtin.«enumerate.__new__» ⟨[.type "enumerate", v], []⟩) (fun _ R s => Hh s.heap ∧
      R (.ok (.ret (.ref (s.heap.push o).objs.size))) { s with heap := (s.heap.push o).push { cls := .type "enumerate", data := .fields #[.none, .bool false, .ref s.heap.objs.size, rawInt 0, .none, .none] } }) :=
  .of_wp fun prog w A R s h => by
    obtain ⟨hp, g, d, tk, os⟩ := s
    obtain ⟨h1, h⟩ := h
    have sub := sub_enumerate
    have bg : ∀ {A' : Around} {E : Value → Shared → Prop} {Q : Value → Shared → Prop}, Q (.ref hp.objs.size) ⟨hp.push o, g, d, tk, os⟩ → wpAny (model prog w) A' (pyIter v) Q E ⟨hp, g, d, tk, os⟩ :=
      fun q => B.iter prog w _ _ ⟨hp, g, d, tk, os⟩ _ h1 q
    wp_walk using bg
    refine wpAny_stack_any fun st => wpAny_pure ?_
    split
    · rename_i c _ _ _ _ _
      cases (c == Value.type "enumerate") <;> (wp_walk using bg; exact ⟨_, rfl, h⟩)
    · wp_walk using bg; exact ⟨_, rfl, h⟩
theorem call_en1 {prog : Program} {w : World} {A : Around} {E : Value → Shared → Prop} {s : Shared} {v : Value} {o : Obj} {Hh : Heap → Prop} {Q : Value → Shared → Prop} (B : Begins v o Hh) (h1 : Hh s.heap)
    (h : ∀ h', IsEnum h' (s.heap.objs.size + 1) s.heap.objs.size 0 .none → h'.get? s.heap.objs.size = some o → h'.objs.size = s.heap.objs.size + 2 → (∀ b o, s.heap.get? b = some o → h'.get? b = some o) → Q (.ref (s.heap.objs.size + 1)) { s with heap := h' }) :
    wpAny (model prog w) A (call (.type "enumerate") [v]) Q E s := by
  refine callType_new F.called_enumerate (by decide) (F.typeCall_enumerate_1 _) (F.newCall_enumerate_1 _) (fun obj => F.args_object_init_2 obj _) F.entry_enumerate_new (meets_en1 B) ⟨h1, ?_⟩
  have hz : (s.heap.push o).objs.size = s.heap.objs.size + 1 := Heap.size_push ..
  rw [hz]
  have he : IsEnum ((s.heap.push o).push { cls := .type "enumerate", data := .fields #[.none, .bool false, .ref s.heap.objs.size, rawInt 0, .none, .none] }) (s.heap.objs.size + 1) s.heap.objs.size 0 .none := by
    have q := Heap.get?_push_size (s.heap.push o) (o := { cls := .type "enumerate", data := .fields #[.none, .bool false, .ref s.heap.objs.size, rawInt 0, .none, .none] }) rfl
    rwa [hz] at q
  exact ⟨⟨_, he, rfl⟩, h _ he (Heap.get?_push_of_some _ (Heap.get?_push_size _ B.free)) (by rw [Heap.size_push, hz]) fun b o x => Heap.get?_push_of_some _ (Heap.get?_push_of_some _ x)⟩
def iEn (K : PySem.W.Frag) (ta : TA) : TI := fun σ H R => ta σ H fun vs H1 => ∃ k a xs, vs = [.ref a] ∧ SqB k K H1 a xs ∧ R (ItEn K k a) H1
theorem pi_en {X : Cx} {e : Expr} {ta : TA} {p pos tpos : Pos} {elts : List Expr} {kk : Nat} (hg : Gl X "enumerate") (hm : X.mg "enumerate" = none) (ha : PA X [e] ta) (hs : starEach [e] X.env = [(false, eval e X.env)]) :
    PI X (.Tuple elts kk tpos) (.Call (.Name "enumerate" p) [e] [] pos) (iEn X.K ta) := by
  refine ⟨fun pins s σ H R I h => Call_ (ld_blt I hg hm boot_enumerate (PyProof.Rows.callWith_type1 (thn (ha.run pos pins s σ H _ I h) fun us s1 ⟨vs, H1, I1, r1, q1⟩ => ?_) hs rfl))⟩
  obtain ⟨k, a, xs, ex, hq, q⟩ := q1
  subst ex
  obtain ⟨u, rfl, ru⟩ := vals1 r1
  cases ru
  obtain ⟨us, rv, src⟩ := hq.read I1
  have la := src.lt
  refine call_en1 (begins_any k a us) src fun h' he hit hz hk => wpAny_pyIter_enum he ?_
  have I2 : Inv X pins σ H1 { s1 with heap := h' } := I1.kept (t' := s1.toks) hk
  refine ⟨s1.heap.objs.size + 1, [s1.heap.objs.size + 1, s1.heap.objs.size], _, _, H1, rfl, I2, turn_en k a (s1.heap.objs.size + 1) s1.heap.objs.size (Nat.ne_of_lt la) (Nat.ne_of_lt (Nat.lt_succ_of_lt la)) (Nat.succ_ne_self _), ⟨⟨.none, he⟩, itB_new hit⟩, fun b hb => ?_, q⟩
  have le : s1.heap.objs.size ≤ b := by
    rcases List.mem_cons.mp hb with z | z
    · rw [z]; exact Nat.le_succ _
    · rw [List.mem_singleton.mp z]; exact Nat.le_refl _
  exact I1.fpOk le (I1.hok.fresh le)

/-! ### zip -/
def ItZp (K : PySem.W.Frag) (k l : Bool) (a b : Addr) : L2.It where
  go i H := ∃ (xs ys : List V) (x y : V), SqB k K H a xs ∧ SqB l K H b ys ∧ xs[i]? = some x ∧ ys[i]? = some y
  yld i H v H' := ∃ T x y, v = .ref T ∧ H T = none ∧ H' = upd H T (.tup [x, y]) ∧ (∀ xs, SqB k K H a xs → xs[i]? = some x) ∧ ∀ ys, SqB l K H b ys → ys[i]? = some y
  stop i H := ∃ xs ys : List V, SqB k K H a xs ∧ SqB l K H b ys ∧ i ≤ xs.length ∧ i ≤ ys.length ∧ (i = xs.length ∨ i = ys.length)
theorem mem5 {c z TI TO i1 i2 : Addr} (h : c ∈ [z, TI, TO, i1, i2]) : c = z ∨ c = TI ∨ c = TO ∨ c = i1 ∨ c = i2 := by
  rcases List.mem_cons.mp h with q | h
  · exact .inl q
  rcases List.mem_cons.mp h with q | h
  · exact .inr (.inl q)
  rcases List.mem_cons.mp h with q | h
  · exact .inr (.inr (.inl q))
  rcases List.mem_cons.mp h with q | h
  · exact .inr (.inr (.inr (.inl q)))
  · exact .inr (.inr (.inr (.inr (List.mem_singleton.mp h))))
theorem turn_zp {P : Program} {w : World} {K : PySem.W.Frag} {elts : List Expr} {kk : Nat} {tpos : Pos} {k l : Bool} {a b z TI TO i1 i2 : Addr} (D : ZipSep2 z TI TO i1 i2 [i1, a] [i2, b]) (nea : a ≠ i1) (neb : b ≠ i2) :
    Turn P w K (.Tuple elts kk tpos) (ItZp K k l a b) [z, TI, TO, i1, i2] z (fun i h => IsZip h z TI TO .none ∧ IsTupOf2 h TI (.ref i1) (.ref i2) ∧ (∃ x y, IsTupOf2 h TO x y) ∧ ItB k h i1 a i ∧ ItB l h i2 b i) where
  mem := List.mem_cons_self ..
  obj i h st c hc := by
    obtain ⟨hz, hTI, ⟨x, y, hTO⟩, h1, h2⟩ := st
    rcases mem5 hc with q | q | q | q | q
    · rw [q]; exact ⟨_, hz, fun v q => nomatch q⟩
    · rw [q]; exact ⟨_, hTI, fun v q => nomatch q⟩
    · rw [q]; exact ⟨_, hTO, fun v q => nomatch q⟩
    · rw [q]; exact h1.obj
    · rw [q]; exact h2.obj
  keep i h h' st kp := by
    obtain ⟨hz, hTI, ⟨x, y, hTO⟩, h1, h2⟩ := st
    exact ⟨kp z (by simp) _ hz, kp TI (by simp) _ hTI, ⟨x, y, kp TO (by simp) _ hTO⟩, h1.lay fun o q => kp i1 (by simp) o q, h2.lay fun o q => kp i2 (by simp) o q⟩
  item := by
    intro X hP hw hK hc i pins s σ H E I hf st hg
    subst hP hw hK
    obtain ⟨hz, hTI, ⟨x0, y0, hTO⟩, h1, h2⟩ := st
    obtain ⟨xs, ys, x, y, qx, qy, hx, hy⟩ := hg
    obtain ⟨us, rv, src⟩ := qx.read I
    obtain ⟨ws, rw2, src2⟩ := qy.read I
    obtain ⟨u, hu, ru⟩ := rv.get hx
    obtain ⟨u2, hu2, ru2⟩ := rw2.get hy
    have hA : X.A.in1.handled = none := I.ok.hd hc
    have l1 : i < us.toArray.size := by rw [List.size_toArray]; exact (List.getElem?_eq_some_iff.mp hu).1
    have l2 : i < ws.toArray.size := by rw [List.size_toArray]; exact (List.getElem?_eq_some_iff.mp hu2).1
    have zl : z < s.heap.objs.size := Heap.lt_size hz
    refine wpAny_pyNext_zipD2_item D (draw_any hA k i1 a us nea) (draw_any hA l i2 b ws neb) hz hTI hTO ⟨h1, src⟩ ⟨h2, src2⟩ l1 l2 fun y1 y2 h' tk e1 e2 z' TO' s1' s2' hT hsz hk => ?_
    have q1 : y1 = u := by
      have q : us.toArray[i]? = some u := by rw [← Array.getElem?_toList]; exact hu
      rw [q] at e1; exact (Option.some.inj e1).symm
    have q2 : y2 = u2 := by
      have q : ws.toArray[i]? = some u2 := by rw [← Array.getElem?_toList]; exact hu2
      rw [q] at e2; exact (Option.some.inj e2).symm
    rw [q1, q2] at TO' hT
    refine ⟨_, rfl, wpAny_letOwnedTupleGo_zip (s := { s with heap := h', toks := tk }) z' fun h2' z2 sb => ?_⟩
    have hT2 : h2'.get? s.heap.objs.size = some { cls := .type "tuple", data := .seq #[u, u2] } := (sb.2 _ (Nat.ne_of_gt zl)).trans hT
    have nw : ObjOk X.prog X.w (upd H s.heap.objs.size (.tup [x, y])) h2' s.heap.objs.size (.tup [x, y]) :=
      ⟨by show 2 ≤ sizeLine; decide, [u, u2], .cons ru (.cons ru2 .nil), ⟨_, hT2, rfl, _, rfl⟩⟩
    have I1 : Inv X pins σ (upd H s.heap.objs.size (.tup [x, y])) { s with heap := h2', toks := tk } :=
      I.turnedNew (ch := [z, TI, TO, i1, i2]) (fun c o hb q => (sb.2 c fun q' => hb (by simp [q'])).trans (hk c o (fun q' => hb (by simp [q'])) (fun q' => hb (by simp [q'])) (fun q' => hb (by simp [q'])) (fun q' => hb (by simp [q'])) q)) hf (Nat.le_refl _) nw
    refine ⟨.ref s.heap.objs.size, _, I1, rfl, ⟨_, x, y, rfl, I.hok.fresh (Nat.le_refl _), rfl, fun m hm => by rw [SqB.inj I hm qx]; exact hx, fun m hm => by rw [SqB.inj I hm qy]; exact hy⟩, ⟨z2, ?_, ⟨u, u2, ?_⟩, ?_, ?_⟩, fun c hcm => ?_⟩
    · exact (sb.2 _ D.TIz).trans (hk _ _ D.TIz D.TITO D.TIi1 D.TIi2 hTI)
    · exact (sb.2 _ D.TOz).trans TO'
    · exact s1'.1.lay fun o q => (sb.2 _ (Ne.symm D.zi1)).trans q
    · exact s2'.1.lay fun o q => (sb.2 _ (Ne.symm D.zi2)).trans q
    · have lt : c < s.heap.objs.size := by
        rcases mem5 hcm with q | q | q | q | q
        · rw [q]; exact zl
        · rw [q]; exact Heap.lt_size hTI
        · rw [q]; exact Heap.lt_size hTO
        · rw [q]; obtain ⟨_, e1, _⟩ := h1.obj; exact Heap.lt_size e1
        · rw [q]; obtain ⟨_, e2, _⟩ := h2.obj; exact Heap.lt_size e2
      rw [upd_ne (Nat.ne_of_lt lt)]
      exact (hf c hcm).1
  done := by
    intro X hP hw hK hc i pins s σ H E I hf st hg
    subst hP hw hK
    obtain ⟨hz, hTI, ⟨x0, y0, hTO⟩, h1, h2⟩ := st
    obtain ⟨xs, ys, qx, qy, b1, b2, hend⟩ := hg
    obtain ⟨us, rv, src⟩ := qx.read I
    obtain ⟨ws, rw2, src2⟩ := qy.read I
    have hA : X.A.in1.handled = none := I.ok.hd hc
    have e1 : us.toArray.size = xs.length := by rw [List.size_toArray, ← rv.length]
    have e2 : ws.toArray.size = ys.length := by rw [List.size_toArray, ← rw2.length]
    refine wpAny_pyNext_zipD2_end D (draw_any hA k i1 a us nea) (draw_any hA l i2 b ws neb) hz hTI hTO ⟨h1, src⟩ ⟨h2, src2⟩ (by rw [e1]; exact b1) (by rw [e2]; exact b2) (by rw [e1, e2]; exact hend)
      fun h' tk hk => ⟨rfl, I.turnedL (t' := tk) (ch := [z, TI, TO, i1, i2]) (fun c o hb q => hk c o (fun q' => hb (by simp [q'])) (fun q' => hb (by simp [q'])) (fun q' => hb (by simp [q'])) (fun q' => hb (by simp [q'])) q) hf⟩
  self := fun A i s Q E st h => wpAny_pyIter_zip st.1 h
def iZp (K : PySem.W.Frag) (ta : TA) : TI := fun σ H R => ta σ H fun vs H1 => ∃ k l a b xs ys, vs = [.ref a, .ref b] ∧ SqB k K H1 a xs ∧ SqB l K H1 b ys ∧ R (ItZp K k l a b) H1
theorem pi_zp {X : Cx} {e e2 : Expr} {ta : TA} {p pos tpos : Pos} {elts : List Expr} {kk : Nat} (hg : Gl X "zip") (hm : X.mg "zip" = none) (ha : PA X [e, e2] ta)
    (hs : starEach [e, e2] X.env = (false, eval e X.env) :: starEach [e2] X.env) (hpl : (backTo pos (starEach [e2] X.env)).any (·.1) = false) :
    PI X (.Tuple elts kk tpos) (.Call (.Name "zip" p) [e, e2] [] pos) (iZp X.K ta) := by
  refine ⟨fun pins s σ H R I h => Call_ (ld_blt I hg hm PyProof.Rows.boot_zip (PyProof.Rows.callWith_type1 (thn (ha.run pos pins s σ H _ I h) fun us s1 ⟨vs, H1, I1, r1, q1⟩ => ?_) hs hpl))⟩
  obtain ⟨k, l, a, b, xs, ys, ex, qx, qy, q⟩ := q1
  subst ex
  obtain ⟨u, u2, rfl, ru, ru2⟩ := Vals.two r1
  cases ru
  cases ru2
  obtain ⟨us, rv, src⟩ := qx.read I1
  obtain ⟨ws, rw2, src2⟩ := qy.read I1
  have la := src.lt
  have lb := src2.lt
  refine zip_begins2 (begins_any k a us) (begins_any l b ws) src src2 fun h' hz hTI hTO g1 g2 hsz hk => wpAny_pyIter_zip hz ?_
  have I2 : Inv X pins σ H1 { s1 with heap := h' } := I1.kept (t' := s1.toks) hk
  have sep : ZipSep2 (s1.heap.objs.size + 4) (s1.heap.objs.size + 2) (s1.heap.objs.size + 3) s1.heap.objs.size (s1.heap.objs.size + 1) [s1.heap.objs.size, a] [s1.heap.objs.size + 1, b] :=
    zip_sep2 (fun c hc => by rw [List.mem_singleton.mp hc]; exact la) fun c hc => by rw [List.mem_singleton.mp hc]; exact lb
  refine ⟨s1.heap.objs.size + 4, [s1.heap.objs.size + 4, s1.heap.objs.size + 2, s1.heap.objs.size + 3, s1.heap.objs.size, s1.heap.objs.size + 1], _, _, H1, rfl, I2, turn_zp sep (Nat.ne_of_lt la) (Nat.ne_of_lt (Nat.lt_succ_of_lt lb)), ⟨hz, hTI, ⟨_, _, hTO⟩, itB_new g1, itB_new g2⟩, fun c hcm => ?_, q⟩
  have le : s1.heap.objs.size ≤ c := by
    rcases mem5 hcm with z | z | z | z | z <;> (rw [z]; first | exact Nat.le_refl _ | exact Nat.le_add_right _ _)
  exact I1.fpOk le (I1.hok.fresh le)
end BT
namespace BT
open PySem PySem.Spec PyProof.Rows L2
section
variable {K : PySem.W.Frag} {W : WX} {Z : Ent} {F F' H H' : Hp} {env : Env} {σ : L2.St}
/-! ## targets -/
/-- an item as the walk hands it on: a value, or a pair just made -/
def ItemV (K : PySem.W.Frag) (F H : Hp) (x : D) (v : V) : Prop := Rep K F x v ∨ ∃ T vs ds, v = .ref T ∧ x = .tuple ds ∧ H T = some (.tup vs) ∧ Reps K F ds vs
def tgIn : Tg → List Nat → Bool
  | .v i, vs => vs.contains i
  | .p2 a b, vs => tgIn a vs && tgIn b vs
  | .p3 a b c, vs => tgIn a vs && tgIn b vs && tgIn c vs
def isTp : Tg → Bool
  | .v _ => false
  | _ => true
def gT (K : PySem.W.Frag) (t : Tg) : TG := fun v σ H Q => ∃ Z F env x e2, R K Z F env σ H ∧ (if isTp t = true then ItemV K F H x v else Rep K F x v) ∧ bindT t x env = some e2 ∧
  ∀ σ2, R K Z F e2 σ2 H → (∀ vs, tgIn t vs = true → wipe σ2 vs = wipe σ vs) → Q σ2 H
theorem wipe_set {σ : L2.St} {i : Nat} {x : Option V} : ∀ {vs : List Nat}, vs.contains i = true → wipe (σ.set i x) vs = wipe σ vs
  | [], h => by cases h
  | v :: vs, h => by
    unfold wipe
    by_cases hv : v = i
    · subst hv
      by_cases hm : vs.contains v = true
      · rw [wipe_set hm]
      · have hm' : v ∉ vs := fun z => hm (List.contains_iff_mem.mpr z)
        refine List.ext_getElem? fun j => ?_
        by_cases hj : j = v
        · subst hj
          rw [List.getElem?_set, List.getElem?_set]
          simp only [if_true, wipe_length, List.length_set]
        · rw [List.getElem?_set_ne (Ne.symm hj), List.getElem?_set_ne (Ne.symm hj)]
          clear h hm
          have out : ∀ (τ : L2.St), ∀ j, j ≠ v → (wipe (τ.set v x) vs)[j]? = (wipe τ vs)[j]? := by
            intro τ
            clear hm'
            induction vs with
            | nil => intro j hj; exact List.getElem?_set_ne (Ne.symm hj)
            | cons w vs ih =>
              intro j hj
              unfold wipe
              rw [List.getElem?_set, List.getElem?_set, ih j hj]
              simp only [wipe_length, List.length_set]
          exact out σ j hj
    · have h' : vs.contains i = true := by
        rw [List.contains_cons, Bool.or_eq_true] at h
        rcases h with h | h
        · exact absurd (by simpa using h) (Ne.symm hv)
        · exact h
      rw [wipe_set h']
theorem R.setV' (r : R K Z F env σ H) {i : Nat} {d : D} {v : V} (q : Rep K F d v) : R K Z F (env.set i (.val d)) (σ.set i (some v)) H := by
  by_cases hi : i < env.length
  · exact r.setV hi q
  · rw [List.set_eq_of_length_le (by omega), List.set_eq_of_length_le (by rw [← r.len]; omega)]
    exact r
section
variable {X : Cx} {pos : Pos}
theorem PG.imp {tg : Expr} {t t' : TG} (h : PG X tg t) (i : ∀ v σ H Q, t' v σ H Q → t v σ H Q) : PG X tg t' := ⟨fun pins s σ H v u Q I r q => h.run pins s σ H v u Q I r (i v σ H Q q)⟩
theorem pg_v {i : Nat} {x : Str} (h : PG X (.Name x pos) (gName i)) : PG X (.Name x pos) (gT X.K (.v i)) := by
  refine PG.imp h fun v σ H Q ⟨Z, F, env, x', e2, hr, hv, hb, q⟩ => ?_
  rw [if_neg (show ¬ isTp (.v i) = true from Bool.false_ne_true)] at hv
  cases hb
  exact q _ (hr.setV' hv) fun vs m => wipe_set m
theorem gT_sub {K : PySem.W.Frag} {t : Tg} {v : V} {σ : L2.St} {H : Hp} {Q : L2.St → Hp → Prop} {Z : Ent} {F : Hp} {env e2 : Env} {x : D} (r : R K Z F env σ H) (h : Rep K F x v) (hb : bindT t x env = some e2)
    (q : ∀ σ2, R K Z F e2 σ2 H → (∀ vs, tgIn t vs = true → wipe σ2 vs = wipe σ vs) → Q σ2 H) : gT K t v σ H Q := by
  refine ⟨Z, F, env, x, e2, r, ?_, hb, q⟩
  cases isTp t with
  | true => rw [if_pos rfl]; exact .inl h
  | false => rw [if_neg Bool.false_ne_true]; exact h
theorem item_tup {K : PySem.W.Frag} {F H : Hp} {ds : List D} {v : V} (s : Same F H) (h : ItemV K F H (.tuple ds) v) : ∃ a xs, v = .ref a ∧ SqT K H a xs ∧ Reps K F ds xs := by
  rcases h with h | ⟨T, vs, es, rfl, e, e2, r⟩
  · cases h with | tup h r => exact ⟨_, _, rfl, (h.mono s).sq, r⟩
  · cases e
    exact ⟨T, vs, rfl, .inl (.inl e2), r⟩
variable {e1 e2 e3 : Expr} {a b c : Tg} {k : Nat}
theorem pg_p2 (hc : X.calm = true) (h1 : PG X e1 (gT X.K a)) (h2 : PG X e2 (gT X.K b)) (s1 : (assignEach [e1, e2] X.env).map (·.2) = assign e1 X.env :: (assignEach [e2] X.env).map (·.2))
    (s2 : (assignEach [e2] X.env).map (·.2) = assign e2 X.env :: (assignEach [] X.env).map (·.2)) (hn : (assignEach [e1, e2] X.env).length = 2) (hst : (assignEach [e1, e2] X.env).findIdx? (·.1) = none) : PG X (.Tuple [e1, e2] k pos) (gT X.K (.p2 a b)) := by
  refine PG.imp (pg_tup hc (pgs_cons h1 (pgs_cons h2 pgs_nil s2) s1) hn hst) fun v σ H Q ⟨Z, F, env, x, ee, hr, hv, hb, q⟩ => ?_
  rw [if_pos (show isTp (.p2 a b) = true from rfl)] at hv
  unfold bindT at hb
  split at hb
  · rename_i x' y z
    obtain ⟨e4, b1, b2⟩ := bind_none hb
    obtain ⟨ad, xs, rfl, sq, rr⟩ := item_tup hr.fh hv
    have hl := rr.length
    cases rr with
    | cons q1 rr =>
      cases rr with
      | cons q2 rr =>
        cases rr
        refine ⟨ad, _, rfl, sq, rfl, _, _, rfl, gT_sub hr q1 b1 fun σ2 r2 w2 => ⟨_, _, rfl, gT_sub r2 q2 b2 fun σ3 r3 w3 => ⟨rfl, q σ3 r3 fun vs hm => ?_⟩⟩⟩
        unfold tgIn at hm
        rw [Bool.and_eq_true] at hm
        rw [w3 vs hm.2, w2 vs hm.1]
  · cases hb
theorem pg_p3 (hc : X.calm = true) (h1 : PG X e1 (gT X.K a)) (h2 : PG X e2 (gT X.K b)) (h3 : PG X e3 (gT X.K c)) (s1 : (assignEach [e1, e2, e3] X.env).map (·.2) = assign e1 X.env :: (assignEach [e2, e3] X.env).map (·.2))
    (s2 : (assignEach [e2, e3] X.env).map (·.2) = assign e2 X.env :: (assignEach [e3] X.env).map (·.2)) (s3 : (assignEach [e3] X.env).map (·.2) = assign e3 X.env :: (assignEach [] X.env).map (·.2))
    (hn : (assignEach [e1, e2, e3] X.env).length = 3) (hst : (assignEach [e1, e2, e3] X.env).findIdx? (·.1) = none) : PG X (.Tuple [e1, e2, e3] k pos) (gT X.K (.p3 a b c)) := by
  refine PG.imp (pg_tup hc (pgs_cons h1 (pgs_cons h2 (pgs_cons h3 pgs_nil s3) s2) s1) hn hst) fun v σ H Q ⟨Z, F, env, x, ee, hr, hv, hb, q⟩ => ?_
  rw [if_pos (show isTp (.p3 a b c) = true from rfl)] at hv
  unfold bindT at hb
  split at hb
  · rename_i x' y z u
    obtain ⟨e5, b1, b0⟩ := bind_none hb
    obtain ⟨e4, b2, b3⟩ := bind_none b0
    obtain ⟨ad, xs, rfl, sq, rr⟩ := item_tup hr.fh hv
    cases rr with
    | cons q1 rr =>
      cases rr with
      | cons q2 rr =>
        cases rr with
        | cons q3 rr =>
          cases rr
          refine ⟨ad, _, rfl, sq, rfl, _, _, rfl, gT_sub hr q1 b1 fun σ2 r2 w2 => ⟨_, _, rfl, gT_sub r2 q2 b2 fun σ3 r3 w3 => ⟨_, _, rfl, gT_sub r3 q3 b3 fun σ4 r4 w4 => ⟨rfl, q σ4 r4 fun vs hm => ?_⟩⟩⟩⟩
          unfold tgIn at hm
          rw [Bool.and_eq_true, Bool.and_eq_true] at hm
          rw [w4 vs hm.2, w3 vs hm.1.2, w2 vs hm.1.1]
  · cases hb
end

/-! ## walks -/
structure WalksD (K : PySem.W.Frag) (F : Hp) (J : L2.It) (xs : List D) (pr : Bool) : Prop where
  go : ∀ i x H, Same F H → xs[i]? = some x → J.go i H
  stop : ∀ i H, Same F H → xs.length = i → J.stop i H
  yld : ∀ i x v H H', Same F H → xs[i]? = some x → J.yld i H v H' → (H' = H ∧ Rep K F x v) ∨ (pr = true ∧ ∃ T vs ds, v = .ref T ∧ H T = none ∧ H' = upd H T (.tup vs) ∧ x = .tuple ds ∧ Reps K F ds vs)
theorem walk_list {a : Addr} {vs : List V} {ds : List D} (h : LstAt K F a vs) (r : Reps K F ds vs) : WalksD K F (Itl K a) ds false := by
  refine ⟨fun i x H s e => ?_, fun i H s e => ⟨vs, (h.mono s).sq, by rw [r.length, e]; exact Nat.le_refl _⟩, fun i x v H H' s e ⟨e1, y⟩ => ?_⟩
  · obtain ⟨v, e1, _⟩ := r.get e
    exact ⟨vs, v, (h.mono s).sq, e1⟩
  · obtain ⟨v', e2, q⟩ := r.get e
    have e3 := y vs (h.mono s).sq
    rw [e2] at e3
    cases e3
    exact .inl ⟨e1, q⟩
theorem walk_tuple {a : Addr} {vs : List V} {ds : List D} (h : TupAt K F a vs) (r : Reps K F ds vs) : WalksD K F (Itt K a) ds false := by
  refine ⟨fun i x H s e => ?_, fun i H s e => ⟨vs, (h.mono s).sq, by rw [r.length, e]; exact Nat.le_refl _⟩, fun i x v H H' s e ⟨e1, y⟩ => ?_⟩
  · obtain ⟨v, e1, _⟩ := r.get e
    exact ⟨vs, v, (h.mono s).sq, e1⟩
  · obtain ⟨v', e2, q⟩ := r.get e
    have e3 := y vs (h.mono s).sq
    rw [e2] at e3
    cases e3
    exact .inl ⟨e1, q⟩
theorem rngL_get {lo : Int} {n i : Nat} {x : D} (e : (rngL lo n)[i]? = some x) : i < n ∧ x = .int (lo + (i : Int)) := by
  unfold rngL at e
  rw [List.getElem?_map] at e
  by_cases h : i < n
  · rw [List.getElem?_range h] at e
    cases e
    exact ⟨h, rfl⟩
  · rw [List.getElem?_eq_none (by rw [List.length_range]; omega)] at e
    cases e
theorem rngC_get {lo c : Int} {n i : Nat} {x : D} (e : (rngC lo c n)[i]? = some x) : i < n ∧ x = .int (lo + (i : Int) * c) := by
  unfold rngC at e
  rw [List.getElem?_map] at e
  by_cases h : i < n
  · rw [List.getElem?_range h] at e
    cases e
    exact ⟨h, rfl⟩
  · rw [List.getElem?_eq_none (by rw [List.length_range]; omega)] at e
    cases e
theorem rngL_len {lo : Int} {n : Nat} : (rngL lo n).length = n := by unfold rngL; rw [List.length_map, List.length_range]
theorem rngC_len {lo c : Int} {n : Nat} : (rngC lo c n).length = n := by unfold rngC; rw [List.length_map, List.length_range]
theorem walk_r {lo : Int} {n : Nat} : WalksD K F (Itr lo n) (rngL lo n) false :=
  ⟨fun i x H s e => (rngL_get e).1, fun i H s e => by rw [rngL_len] at e; exact Nat.le_of_eq e, fun i x v H H' s e ⟨e1, y⟩ => .inl ⟨e1, by rw [(rngL_get e).2, y]; exact .int _⟩⟩
theorem walk_c {lo c : Int} {n : Nat} : WalksD K F (Itc lo c n) (rngC lo c n) false :=
  ⟨fun i x H s e => (rngC_get e).1, fun i H s e => by rw [rngC_len] at e; exact Nat.le_of_eq e, fun i x v H H' s e ⟨e1, y⟩ => .inl ⟨e1, by rw [(rngC_get e).2, y]; exact .int _⟩⟩
/-- a sequence by its kind -/
def SeqAt (k : Bool) (K : PySem.W.Frag) (F : Hp) (a : Addr) (vs : List V) : Prop := if k = true then TupAt K F a vs else LstAt K F a vs
theorem SeqAt.sqB {k : Bool} {a : Addr} {vs : List V} (h : SeqAt k K F a vs) (s : Same F H) : SqB k K H a vs := by
  cases k with
  | true => exact (TupAt.mono h s).sq
  | false => exact (LstAt.mono h s).sq
theorem SeqAt.mono {k : Bool} {a : Addr} {vs : List V} (h : SeqAt k K F a vs) (s : Same F F') : SeqAt k K F' a vs := by
  cases k with
  | true => exact TupAt.mono h s
  | false => exact LstAt.mono h s
theorem Rep.seq {x : D} {ds : List D} {v : V} (h : Rep K F x v) (e : items? x = some ds) : ∃ k a vs, v = .ref a ∧ SeqAt k K F a vs ∧ Reps K F ds vs := by
  rcases items_list e with rfl | rfl
  · cases h with | lst h r => exact ⟨false, _, _, rfl, h, r⟩
  · cases h with | tup h r => exact ⟨true, _, _, rfl, h, r⟩
theorem walk_en {k : Bool} {a : Addr} {vs : List V} {ds : List D} (h : SeqAt k K F a vs) (r : Reps K F ds vs) : WalksD K F (ItEn K k a) (ds.zipIdx.map fun p => .tuple [.int (p.2 : Nat), p.1]) true := by
  have gt : ∀ {i : Nat} {x : D}, (ds.zipIdx.map fun p => PyData.tuple [.int (p.2 : Nat), p.1])[i]? = some x → ∃ d, ds[i]? = some d ∧ x = .tuple [.int (i : Nat), d] := fun {i x} e => by
    rw [List.getElem?_map, List.getElem?_zipIdx] at e
    cases hd : ds[i]? with
    | none => rw [hd] at e; cases e
    | some d => rw [hd] at e; cases e; exact ⟨d, rfl, by simp⟩
  refine ⟨fun i x H s e => ?_, fun i H s e => ⟨vs, h.sqB s, by rw [r.length]; rwa [List.length_map, List.length_zipIdx] at e⟩, fun i x v H H' s e ⟨T, w, ev, hT, hH, y⟩ => ?_⟩
  · obtain ⟨d, e1, _⟩ := gt e
    obtain ⟨v, e2, _⟩ := r.get e1
    exact ⟨vs, v, h.sqB s, e2⟩
  · obtain ⟨d, e1, e2⟩ := gt e
    obtain ⟨v', e3, q⟩ := r.get e1
    have e4 := y vs (h.sqB s)
    rw [e3] at e4
    cases e4
    exact .inr ⟨rfl, T, _, _, ev, hT, hH, e2, .cons (.int _) (.cons q .nil)⟩
theorem walk_zp {k l : Bool} {a b : Addr} {vs ws : List V} {ds es : List D} (h : SeqAt k K F a vs) (r : Reps K F ds vs) (h2 : SeqAt l K F b ws) (r2 : Reps K F es ws) : WalksD K F (ItZp K k l a b) ((ds.zip es).map fun p => .tuple [p.1, p.2]) true := by
  have gt : ∀ {i : Nat} {x : D}, ((ds.zip es).map fun p => PyData.tuple [p.1, p.2])[i]? = some x → ∃ d e, ds[i]? = some d ∧ es[i]? = some e ∧ x = .tuple [d, e] := fun {i x} e => by
    rw [List.getElem?_map] at e
    cases hz : (ds.zip es)[i]? with
    | none => rw [hz] at e; cases e
    | some q =>
      rw [hz] at e
      cases e
      have := List.getElem?_zip_eq_some.mp hz
      exact ⟨q.1, q.2, this.1, this.2, rfl⟩
  refine ⟨fun i x H s e => ?_, fun i H s e => ⟨vs, ws, h.sqB s, h2.sqB s, ?_⟩, fun i x v H H' s e ⟨T, w, w2, ev, hT, hH, y, y2⟩ => ?_⟩
  · obtain ⟨d, d2, e1, e2, _⟩ := gt e
    obtain ⟨v, e3, _⟩ := r.get e1
    obtain ⟨v2, e4, _⟩ := r2.get e2
    exact ⟨vs, ws, v, v2, h.sqB s, h2.sqB s, e3, e4⟩
  · rw [List.length_map, List.length_zip] at e
    rw [r.length, r2.length]
    omega
  · obtain ⟨d, d2, e1, e2, e5⟩ := gt e
    obtain ⟨v', e3, q⟩ := r.get e1
    obtain ⟨v2, e4, q2⟩ := r2.get e2
    have e6 := y vs (h.sqB s)
    have e7 := y2 ws (h2.sqB s)
    rw [e3] at e6
    rw [e4] at e7
    cases e6
    cases e7
    exact .inr ⟨rfl, T, _, _, ev, hT, hH, e5, .cons q (.cons q2 .nil)⟩
end
/-! ## what is walked -/
section
variable {X : Cx} {C : Calls} {W : WX} {a b c e tg : Expr} {a' b' c' : IE} {pos p : Pos}
def kI (K : PySem.W.Frag) (pr : Bool) (Q : L2.It → Hp → Prop) (Z : Ent) (F : Hp) (σ : L2.St) : List D → Env → Prop := fun xs env => ∀ F' H' J, Same F F' → R K Z F' env σ H' → WalksD K F' J xs pr → Q J H'
def tI (K : PySem.W.Frag) (W : WX) (pr : Bool) (m : Env → Res (List D)) : TI := fun σ H Q => ∃ Z F env, R K Z F env σ H ∧ Okr (m env) (kI K pr Q Z F σ) (kX K W Z F σ)
abbrev EI (X : Cx) (C : Calls) (W : WX) (pr : Bool) (it : It) : TI := tI X.K W pr (evIt C it)
theorem PI.imp {t t' : TI} (h : PI X tg e t) (i : ∀ σ H Q, t' σ H Q → t σ H Q) : PI X tg e t' := ⟨fun pins s σ H Q I q => h.run pins s σ H Q I (i σ H Q q)⟩
theorem pi_e (ha : PE X a (EV X C W false a')) : PI X tg a (EI X C W false (.e a')) := by
  refine ⟨fun pins s σ H Q I ⟨Z, F, env, r, h⟩ => ?_⟩
  simp only [evIt] at h
  cases h1 : ev C a' env with
  | ok x e1 =>
    rw [h1] at h
    simp only at h
    cases h2 : items? x with
    | none => rw [h2] at h; exact h.elim
    | some ds =>
      rw [h2] at h
      rcases items_list h2 with rfl | rfl
      · refine (pi_list ha).run pins s σ H Q I ⟨Z, F, env, r, ?_⟩
        rw [h1]
        intro F1 H1 v s1 r1 q1
        rw [Val.ff] at q1
        cases q1 with
        | lst hl rr => exact ⟨_, rfl, ⟨_, (hl.mono r1.fh).sq⟩, h F1 H1 _ s1 r1 (walk_list hl rr)⟩
      · refine (pi_tup ha).run pins s σ H Q I ⟨Z, F, env, r, ?_⟩
        rw [h1]
        intro F1 H1 v s1 r1 q1
        rw [Val.ff] at q1
        cases q1 with
        | tup hl rr => exact ⟨_, rfl, ⟨_, (hl.mono r1.fh).sq⟩, h F1 H1 _ s1 r1 (walk_tuple hl rr)⟩
  | exc c e1 =>
    rw [h1] at h
    refine (pi_list ha).run pins s σ H Q I ⟨Z, F, env, r, ?_⟩
    rw [h1]
    exact h
  | stuck => rw [h1] at h; exact h.elim
theorem smallI_iff {n : Int} (h : smallI n = true) : -1000000000 ≤ n ∧ n ≤ 1000000000 := of_decide_eq_true h
theorem pi_r1 (hg : Gl X "range") (hm : X.mg "range" = none) (ha : PE X a (EV X C W false a')) (hs : starEach [a] X.env = [(false, eval a X.env)]) (hs2 : starEach [a] X.env = (false, eval a X.env) :: starEach [] X.env) : PI X tg (.Call (.Name "range" p) [a] [] pos) (EI X C W false (.r1 a')) := by
  refine PI.imp (pi_range1 hg hm (pa_cons ha pa_nil hs2) hs) fun σ H Q ⟨Z, F, env, r, h⟩ => ⟨Z, F, env, r, ?_⟩
  simp only [evIt] at h
  cases h1 : ev C a' env with
  | ok x e1 =>
    rw [h1] at h
    intro F1 H1 v s1 r1 q1
    rw [Val.ff] at q1
    cases x with
    | int n =>
      simp only at h
      cases q1
      split at h
      · rename_i hz
        have := smallI_iff hz
        exact ⟨n, rfl, by omega, by omega, h F1 H1 _ s1 r1 walk_r⟩
      · exact h.elim
    | _ => exact h.elim
  | exc c e1 => rw [h1] at h; exact h
  | stuck => rw [h1] at h; exact h.elim
theorem pi_r2 (hg : Gl X "range") (hm : X.mg "range" = none) (ha : PE X a (EV X C W false a')) (hb : PE X b (EV X C W false b')) (hs : starEach [a, b] X.env = [(false, eval a X.env), (false, eval b X.env)]) (hs1 : starEach [b] X.env = [(false, eval b X.env)])
    (hs2 : starEach [a, b] X.env = (false, eval a X.env) :: starEach [b] X.env) (hs3 : starEach [b] X.env = (false, eval b X.env) :: starEach [] X.env) : PI X tg (.Call (.Name "range" p) [a, b] [] pos) (EI X C W false (.r2 a' b')) := by
  refine PI.imp (pi_range2 hg hm (pa_cons ha (pa_cons hb pa_nil hs3) hs2) hs hs1) fun σ H Q ⟨Z, F, env, r, h⟩ => ⟨Z, F, env, r, ?_⟩
  simp only [evIt] at h
  cases h1 : ev C a' env with
  | ok x e1 =>
    rw [h1] at h
    intro F1 H1 v s1 r1 q1
    rw [Val.ff] at q1
    cases x with
    | int n =>
      simp only at h
      cases q1
      refine ⟨Z, F1, e1, r1, ?_⟩
      cases h2 : ev C b' e1 with
      | ok y e2 =>
        rw [h2] at h
        intro F2 H2 u s2 r2 q2
        rw [Val.ff] at q2
        cases y with
        | int m =>
          simp only at h
          cases q2
          split at h
          · rename_i hz
            rw [Bool.and_eq_true] at hz
            have := smallI_iff hz.1
            have := smallI_iff hz.2
            exact ⟨n, m, rfl, ⟨by omega, by omega, by omega, by omega⟩, h F2 H2 _ (s1.trans s2) r2 walk_r⟩
          · exact h.elim
        | _ => exact h.elim
      | exc c e2 => rw [h2] at h; exact kX.mono (F := F) h s1
      | stuck => rw [h2] at h; exact h.elim
    | _ => exact h.elim
  | exc c e1 => rw [h1] at h; exact h
  | stuck => rw [h1] at h; exact h.elim
theorem pi_r3 (hg : Gl X "range") (hm : X.mg "range" = none) (ha : PE X a (EV X C W false a')) (hb : PE X b (EV X C W false b')) (hc : PE X c (EV X C W false c'))
    (hs : starEach [a, b, c] X.env = (false, eval a X.env) :: starEach [b, c] X.env) (hpl : (backTo pos (starEach [b, c] X.env)).any (·.1) = false)
    (hs2 : starEach [b, c] X.env = (false, eval b X.env) :: starEach [c] X.env) (hs3 : starEach [c] X.env = (false, eval c X.env) :: starEach [] X.env) : PI X tg (.Call (.Name "range" p) [a, b, c] [] pos) (EI X C W false (.r3 a' b' c')) := by
  refine PI.imp (pi_range3 hg hm (pa_cons ha (pa_cons hb (pa_cons hc pa_nil hs3) hs2) hs) hs hpl) fun σ H Q ⟨Z, F, env, r, h⟩ => ⟨Z, F, env, r, ?_⟩
  simp only [evIt] at h
  cases h1 : ev C a' env with
  | ok x e1 =>
    rw [h1] at h
    intro F1 H1 v s1 r1 q1
    rw [Val.ff] at q1
    cases x with
    | int n =>
      simp only at h
      cases q1
      refine ⟨Z, F1, e1, r1, ?_⟩
      cases h2 : ev C b' e1 with
      | ok y e2 =>
        rw [h2] at h
        intro F2 H2 u s2 r2 q2
        rw [Val.ff] at q2
        cases y with
        | int m =>
          simp only at h
          cases q2
          refine ⟨Z, F2, e2, r2, ?_⟩
          cases h3 : ev C c' e2 with
          | ok z e3 =>
            rw [h3] at h
            intro F3 H3 u3 s3 r3 q3
            rw [Val.ff] at q3
            cases z with
            | int l =>
              simp only at h
              cases q3
              split at h
              · rename_i hz
                rw [Bool.and_eq_true, Bool.and_eq_true] at hz
                have := smallI_iff hz.1.1
                have := smallI_iff hz.1.2
                have hl : l = -1 := of_decide_eq_true hz.2
                subst hl
                exact ⟨n, m, -1, _, rfl, RgC.neg (by omega) (by omega) (by omega) (by omega), h F3 H3 _ ((s1.trans s2).trans s3) r3 walk_c⟩
              · exact h.elim
            | _ => exact h.elim
          | exc c e2 => rw [h3] at h; exact kX.mono (F := F) h (s1.trans s2)
          | stuck => rw [h3] at h; exact h.elim
        | _ => exact h.elim
      | exc c e2 => rw [h2] at h; exact kX.mono (F := F) h s1
      | stuck => rw [h2] at h; exact h.elim
    | _ => exact h.elim
  | exc c e1 => rw [h1] at h; exact h
  | stuck => rw [h1] at h; exact h.elim
theorem pi_enum (hg : Gl X "enumerate") (hm : X.mg "enumerate" = none) (ha : PE X a (EV X C W false a')) (hs : starEach [a] X.env = [(false, eval a X.env)]) (hs2 : starEach [a] X.env = (false, eval a X.env) :: starEach [] X.env) {elts : List Expr} {kk : Nat} {tpos : Pos} :
    PI X (.Tuple elts kk tpos) (.Call (.Name "enumerate" p) [a] [] pos) (EI X C W true (.enum a')) := by
  refine PI.imp (pi_en hg hm (pa_cons ha pa_nil hs2) hs) fun σ H Q ⟨Z, F, env, r, h⟩ => ⟨Z, F, env, r, ?_⟩
  simp only [evIt] at h
  cases h1 : ev C a' env with
  | ok x e1 =>
    rw [h1] at h
    simp only at h
    intro F1 H1 v s1 r1 q1
    rw [Val.ff] at q1
    cases h2 : items? x with
    | none => rw [h2] at h; exact h.elim
    | some ds =>
      rw [h2] at h
      obtain ⟨k, ad, vs, rfl, sq, rr⟩ := q1.seq h2
      exact ⟨k, ad, vs, rfl, sq.sqB r1.fh, h F1 H1 _ s1 r1 (walk_en sq rr)⟩
  | exc c e1 => rw [h1] at h; exact h
  | stuck => rw [h1] at h; exact h.elim
theorem pi_zip (hg : Gl X "zip") (hm : X.mg "zip" = none) (ha : PE X a (EV X C W false a')) (hb : PE X b (EV X C W false b')) (hs : starEach [a, b] X.env = (false, eval a X.env) :: starEach [b] X.env) (hpl : (backTo pos (starEach [b] X.env)).any (·.1) = false)
    (hs3 : starEach [b] X.env = (false, eval b X.env) :: starEach [] X.env) {elts : List Expr} {kk : Nat} {tpos : Pos} : PI X (.Tuple elts kk tpos) (.Call (.Name "zip" p) [a, b] [] pos) (EI X C W true (.zip a' b')) := by
  refine PI.imp (pi_zp hg hm (pa_cons ha (pa_cons hb pa_nil hs3) hs) hs hpl) fun σ H Q ⟨Z, F, env, r, h⟩ => ⟨Z, F, env, r, ?_⟩
  simp only [evIt] at h
  cases h1 : ev C a' env with
  | ok x e1 =>
    rw [h1] at h
    simp only at h
    intro F1 H1 v s1 r1 q1
    rw [Val.ff] at q1
    refine ⟨Z, F1, e1, r1, ?_⟩
    cases h4 : ev C b' e1 with
    | ok y e2 =>
      rw [h4] at h
      simp only at h
      intro F2 H2 u s2 r2 q2
      rw [Val.ff] at q2
      cases h2 : items? x with
      | none => rw [h2] at h; exact h.elim
      | some ds =>
        cases h3 : items? y with
        | none => rw [h2, h3] at h; exact h.elim
        | some es =>
          rw [h2, h3] at h
          obtain ⟨k, ad, vs, rfl, sq, rr⟩ := (q1.mono s2).seq h2
          obtain ⟨l, ad2, vs2, rfl, sq2, rr2⟩ := q2.seq h3
          exact ⟨k, l, ad, ad2, vs, vs2, rfl, sq.sqB r2.fh, sq2.sqB r2.fh, h F2 H2 _ (s1.trans s2) r2 (walk_zp sq rr sq2 rr2)⟩
    | exc c e2 => rw [h4] at h; exact kX.mono (F := F) h s1
    | stuck => rw [h4] at h; exact h.elim
  | exc c e1 => rw [h1] at h; exact h
  | stuck => rw [h1] at h; exact h.elim
end
end BT
namespace BT
open PySem PySem.Spec PyProof.Rows L2
section
variable {K : PySem.W.Frag} {W : WX} {Z : Ent} {F F' H H' : Hp} {env : Env} {σ : L2.St}
theorem upd_get {H : Hp} {p b : Addr} {o x : HO} (hb : b ≠ p) (e : upd H p o b = some x) : H b = some x := by rwa [upd_ne hb] at e
theorem wipeE_len (e : Env) : ∀ vs : List Nat, (wipeE e vs).length = e.length
  | [] => rfl
  | v :: vs => by unfold wipeE; rw [List.length_set, wipeE_len e vs]
theorem wipeE_out {e : Env} {i : Nat} : ∀ {vs : List Nat}, i ∉ vs → (wipeE e vs)[i]? = e[i]?
  | [], _ => rfl
  | v :: vs, h => by
    unfold wipeE
    rw [List.getElem?_set_ne (fun z : v = i => h (by rw [z]; exact List.mem_cons_self ..)), wipeE_out fun m => h (List.mem_cons_of_mem _ m)]
theorem backE_len (e0 e : Env) : ∀ vs : List Nat, (backE e0 e vs).length = e.length
  | [] => rfl
  | v :: vs => by unfold backE; rw [List.length_set, backE_len e0 e vs]
theorem backE_out {e0 e : Env} {i : Nat} : ∀ {vs : List Nat}, i ∉ vs → (backE e0 e vs)[i]? = e[i]?
  | [], _ => rfl
  | v :: vs, h => by
    unfold backE
    rw [List.getElem?_set_ne (fun z : v = i => h (by rw [z]; exact List.mem_cons_self ..)), backE_out fun m => h (List.mem_cons_of_mem _ m)]
theorem backE_in {e0 e : Env} {i : Nat} {x : Slot} : ∀ {vs : List Nat}, i ∈ vs → (backE e0 e vs)[i]? = some x → x = slot e0 i
  | v :: vs, h, hx => by
    unfold backE at hx
    rcases set_at hx with ⟨rfl, z⟩ | ⟨n, hx⟩
    · exact z
    · rcases List.mem_cons.mp h with z | h
      · exact absurd z n
      · exact backE_in h hx
theorem R.wipes (r : R K Z F env σ H) : ∀ vs : List Nat, R K Z F (wipeE env vs) (wipe σ vs) H
  | [] => r
  | v :: vs => by unfold wipeE wipe; exact (R.wipes r vs).dropS v
theorem R.back {F1 H1 : Hp} {e1 e : Env} {vs : List Nat} (r1 : R K Z F1 e1 σ H1) (s : Same F1 F) (r : R K Z F (wipeE e vs) (wipe σ vs) H) (no : noOwn e1 vs = true) : R K Z F (backE e1 e vs) σ H := by
  have nov : ∀ i ∈ vs, ownD (slot e1 i) = none := fun i hi => by
    have := List.all_eq_true.mp no i hi
    simpa using this
  refine ⟨r.fh, r.f0, r.nw, r.g, r.gx, r.xe, ?_, fun i d e' => ?_, fun i x d e' e2 => ?_, fun i j x y d d2 a h1 h2 h3 h4 h5 h6 => ?_⟩
  · have := r.len
    rw [wipeE_len, wipe_length] at this
    rw [backE_len, this]
  · by_cases hi : i ∈ vs
    · have q := backE_in hi e'
      obtain ⟨v, q1, q2⟩ := r1.vl i d (slot_get q.symm fun z => nomatch z)
      exact ⟨v, q1, q2.mono s⟩
    · rw [backE_out hi] at e'
      obtain ⟨v, q1, q2⟩ := r.vl i d (by rw [wipeE_out hi]; exact e')
      exact ⟨v, (wipe_some q1).1, q2⟩
  · by_cases hi : i ∈ vs
    · have q := backE_in hi e'
      rw [q, nov i hi] at e2
      cases e2
    · rw [backE_out hi] at e'
      obtain ⟨a, q1, q2⟩ := r.ow i x d (by rw [wipeE_out hi]; exact e') e2
      exact ⟨a, (wipe_some q1).1, q2⟩
  · by_cases hi : i ∈ vs
    · rw [backE_in hi h1, nov i hi] at h3; cases h3
    · by_cases hj : j ∈ vs
      · rw [backE_in hj h2, nov j hj] at h4; cases h4
      · rw [backE_out hi] at h1
        rw [backE_out hj] at h2
        exact r.ap i j x y d d2 a (by rw [wipeE_out hi]; exact h1) (by rw [wipeE_out hj]; exact h2) h3 h4 (by rw [wipe_out hi]; exact h5) (by rw [wipe_out hj]; exact h6)
/-! ### the list that a comprehension fills, held beside the places -/
def Ent.plus (Z : Ent) (p : Addr) (o : HO) : Ent := ⟨Z.F, upd Z.H p o, Z.ex⟩
theorem R.plus (r : R K Z F env σ H) {p : Addr} {o : HO} (h : H p = none) : R K (Z.plus p o) F env σ (upd H p o) := by
  have hf := r.f0n h
  have zf : Z.F p = none := r.f0.free hf
  refine ⟨fun b x e => ?_, r.f0, fun b x e => ?_, fun b x e ne => ?_, fun b x e => ?_, fun a e => ?_, r.len, r.vl, fun i x d e e2 => ?_, r.ap⟩
  · rw [upd_ne (ne_of_none e hf)]; exact r.fh b x e
  · by_cases hb : b = p
    · subst hb; rw [hf]; exact zf.symm
    · exact r.nw b x (upd_get hb e)
  · by_cases hb : b = p
    · subst hb
      rw [upd_same]
      have : upd Z.H b o b = some x := e
      rwa [upd_same] at this
    · rw [upd_ne hb]; exact r.g b x (upd_get hb e) ne
  · by_cases hb : b = p
    · subst hb; exact ⟨o, upd_same⟩
    · rw [upd_ne hb]; exact r.gx b x (upd_get hb e)
  · by_cases hb : a = p
    · subst hb; exact ⟨o, upd_same⟩
    · obtain ⟨o', q⟩ := r.xe a e
      exact ⟨o', show upd Z.H p o a = some o' by rw [upd_ne hb]; exact q⟩
  · obtain ⟨a, q1, q2, q3, q4⟩ := r.ow i x d e e2
    obtain ⟨o', ho⟩ := q2.some
    have ne : a ≠ p := fun z => by rw [z, h] at ho; cases ho
    refine ⟨a, q1, q2.at fun o e => by rw [upd_ne ne]; exact e, q3, ?_⟩
    cases x with
    | own _ => exact show upd Z.H p o a = none by rw [upd_ne ne]; exact q4
    | inp _ => exact q4
    | _ => cases e2
section
variable {p : Addr} {o : HO} (r : R K (Z.plus p o) F env σ H) (zp : Z.H p = none) (zx : Z.ex ≠ some p)
include r zp zx
theorem R.pAt : H p = some o := r.g p o upd_same zx
theorem R.pF (zf : Z.F p = none) : F p = none := (r.nw p o upd_same).trans zf
theorem R.pNe {i : Nat} {x : Slot} {d : D} {a : Addr} (e : env[i]? = some x) (e2 : ownD x = some d) (h : σ[i]? = some (some (.ref a))) : a ≠ p := fun z => by
  obtain ⟨a', q1, q2, q3, q4⟩ := r.ow i x d e e2
  rw [h] at q1
  cases q1
  cases x with
  | own _ =>
    have q4 : upd Z.H p o a = none := q4
    rw [z, upd_same] at q4; cases q4
  | inp _ => exact zx (z ▸ q4)
  | _ => cases e2
theorem R.minus : R K Z F env σ H := by
  refine ⟨r.fh, r.f0, fun b x e => r.nw b x ?_, fun b x e ne => r.g b x ?_ ne, fun b x e => r.gx b x ?_, fun a e => ?_, r.len, r.vl, fun i x d e e2 => ?_, r.ap⟩
  · exact show upd Z.H p o b = some x by rw [upd_ne (ne_of_none e zp)]; exact e
  · exact show upd Z.H p o b = some x by rw [upd_ne (ne_of_none e zp)]; exact e
  · exact show upd Z.H p o b = some x by rw [upd_ne (ne_of_none e zp)]; exact e
  · obtain ⟨o', q⟩ := r.xe a e
    have ne : a ≠ p := fun z => zx (z ▸ e)
    have q : upd Z.H p o a = some o' := q
    rw [upd_ne ne] at q
    exact ⟨o', q⟩
  · obtain ⟨a, q1, q2, q3, q4⟩ := r.ow i x d e e2
    refine ⟨a, q1, q2, q3, ?_⟩
    have ne := r.pNe zp zx e e2 q1
    cases x with
    | own _ =>
      have q4 : upd Z.H p o a = none := q4
      rw [upd_ne ne] at q4; exact q4
    | inp _ => exact q4
    | _ => cases e2
theorem R.chg (zf : Z.F p = none) (o2 : HO) : R K (Z.plus p o2) F env σ (upd H p o2) := by
  have hf := r.pF zp zx zf
  have m := r.minus zp zx
  have hp := r.pAt zp zx
  refine ⟨fun b x e => ?_, m.f0, fun b x e => ?_, fun b x e ne => ?_, fun b x e => ?_, fun a e => ?_, m.len, m.vl, fun i x d e e2 => ?_, m.ap⟩
  · rw [upd_ne (ne_of_none e hf)]; exact m.fh b x e
  · by_cases hb : b = p
    · subst hb; rw [hf]; exact zf.symm
    · exact m.nw b x (upd_get hb e)
  · by_cases hb : b = p
    · subst hb
      rw [upd_same]
      have : upd Z.H b o2 b = some x := e
      rwa [upd_same] at this
    · rw [upd_ne hb]; exact m.g b x (upd_get hb e) ne
  · by_cases hb : b = p
    · subst hb; exact ⟨o2, upd_same⟩
    · rw [upd_ne hb]; exact m.gx b x (upd_get hb e)
  · obtain ⟨o', q⟩ := m.xe a e
    have ne : a ≠ p := fun z => zx (z ▸ e)
    exact ⟨o', show upd Z.H p o2 a = some o' by rw [upd_ne ne]; exact q⟩
  · obtain ⟨a, q1, q2, q3, q4⟩ := m.ow i x d e e2
    have ne := r.pNe zp zx e e2 q1
    refine ⟨a, q1, q2.at fun o e => by rw [upd_ne ne]; exact e, q3, ?_⟩
    cases x with
    | own _ => exact show upd Z.H p o2 a = none by rw [upd_ne ne]; exact q4
    | inp _ => exact q4
    | _ => cases e2
end
/-- a new list as a value -/
theorem fresh_val (fr : Bool) (r : R K Z F env σ H) {ds : List D} {p : Addr} (f : Fresh K Z F env σ H (.list ds) p) : ∃ F2, Same F F2 ∧ R K Z F2 env σ H ∧ Val K Z F2 env σ H fr (.list ds) (.ref p) := by
  cases fr with
  | true => exact ⟨F, Same.refl F, r, by unfold Val; rw [if_pos (show (true && isL (PyData.list ds)) = true from rfl)]; exact ⟨p, rfl, f⟩⟩
  | false =>
    obtain ⟨r2, s2, q⟩ := r.freeze f
    exact ⟨_, s2, r2, by rw [Val.ff]; exact q⟩
/-- a pair made by a walk -/
theorem R.junk (r : R K Z F env σ H) {p : Addr} {o : HO} (h : H p = none) : R K Z F env σ (upd H p o) :=
  r.after (Same.refl F) (fun b x e => by rw [upd_ne (ne_of_none e (r.f0n h))]; exact r.fh b x e) (same_upd h) fun _ _ _ => rfl
theorem item_in {x : D} {v : V} {t : Tg} {pr : Bool} (tp : pr = true → isTp t = true) (r : R K Z F env σ H)
    (y : (H' = H ∧ Rep K F x v) ∨ (pr = true ∧ ∃ T vs ds, v = .ref T ∧ H T = none ∧ H' = upd H T (.tup vs) ∧ x = .tuple ds ∧ Reps K F ds vs)) : R K Z F env σ H' ∧ (if isTp t = true then ItemV K F H' x v else Rep K F x v) := by
  rcases y with ⟨rfl, q⟩ | ⟨hp, T, vs, ds, rfl, hT, rfl, rfl, rr⟩
  · refine ⟨r, ?_⟩
    cases isTp t with
    | true => rw [if_pos rfl]; exact .inl q
    | false => rw [if_neg Bool.false_ne_true]; exact q
  · refine ⟨r.junk hT, ?_⟩
    rw [if_pos (tp hp)]
    exact .inr ⟨T, vs, ds, rfl, rfl, upd_same, rr⟩
end
theorem WalksD.mono {K : PySem.W.Frag} {F F' : Hp} {J : L2.It} {xs : List D} {pr : Bool} (w : WalksD K F J xs pr) (s : Same F F') : WalksD K F' J xs pr :=
  ⟨fun i x H h => w.go i x H (s.trans h), fun i H h => w.stop i H (s.trans h), fun i x v H H' h e y => (w.yld i x v H H' (s.trans h) e y).imp (fun ⟨a, b⟩ => ⟨a, b.mono s⟩) fun ⟨a, T, vs, ds, b, c, d, e, f⟩ => ⟨a, T, vs, ds, b, c, d, e, f.mono s⟩⟩
theorem lcGo_cons {f : Env → Res (Option D)} {t : Tg} {vs : List Nat} {x : D} {xs ys : List D} {e e' : Env} (h : lcGo f t vs (x :: xs) e = .ok ys e') :
    ∃ e1 r e2 zs, bindT t x (wipeE e vs) = some e1 ∧ f e1 = .ok r e2 ∧ lcGo f t vs xs e2 = .ok zs e' ∧ ys = (match r with | some y => y :: zs | none => zs) := by
  unfold lcGo at h
  split at h
  · cases h
  · rename_i e1 h1
    split at h
    · rename_i r e2 h2
      split at h
      · rename_i zs e3 h3
        cases h
        exact ⟨e1, r, e2, zs, h1, h2, h3, rfl⟩
      · cases h
    · cases h
theorem wipe_in {σ : L2.St} {i : Nat} : ∀ {vs : List Nat}, i ∈ vs → (wipe σ vs)[i]? = if i < σ.length then some none else none
  | v :: vs, h => by
    unfold wipe
    rw [List.getElem?_set, wipe_length]
    by_cases hv : v = i
    · subst hv; rw [if_pos rfl]
    · rw [if_neg hv]
      rcases List.mem_cons.mp h with z | h
      · exact absurd z.symm hv
      · exact wipe_in h
theorem wipe_two {σ : L2.St} {vs : List Nat} : wipe (wipe σ vs) vs = wipe σ vs := by
  refine List.ext_getElem? fun i => ?_
  by_cases hi : i ∈ vs
  · rw [wipe_in hi, wipe_in hi, wipe_length]
  · rw [wipe_out hi]
def W0 : WX := fun _ _ => False
section
variable {X : Cx} {C : Calls} {W : WX}
def kF (K : PySem.W.Frag) (Qn : Hp → Prop) (Qy : V → Hp → Prop) (Z : Ent) (F : Hp) (σ : L2.St) : Option D → Env → Prop := fun r e => ∀ F' H', Same F F' → R K Z F' e σ H' → match r with | none => Qn H' | some y => ∀ v, Rep K F' y v → Qy v H'
/-- what a turn's test and its element give -/
def TurnD (K : PySem.W.Frag) (f : Env → Res (Option D)) (tt : TT) (te : TE) : Prop := ∀ (Z : Ent) (F : Hp) (env : Env) (σ : L2.St) (H : Hp) (Qn : Hp → Prop) (Qy : V → Hp → Prop), R K Z F env σ H → Okr (f env) (kF K Qn Qy Z F σ) (fun _ _ => False) →
  tt σ H fun b H3 => if b = true then te σ H3 Qy else Qn H3
theorem turn_lc (x' : IE) : TurnD X.K (fun e => match ev C x' e with | .ok y e' => .ok (some y) e' | _ => .stuck) tYes (EV X C W0 false x') := by
  intro Z F env σ H Qn Qy r h
  show if true = true then EV X C W0 false x' σ H Qy else Qn H
  rw [if_pos rfl]
  refine ⟨Z, F, env, r, ?_⟩
  simp only at h
  cases h1 : ev C x' env with
  | ok y e1 =>
    rw [h1] at h
    intro F1 H1 v s1 r1 q1
    rw [Val.ff] at q1
    exact h F1 H1 s1 r1 v q1
  | exc c e1 => rw [h1] at h; exact h.elim
  | stuck => rw [h1] at h; exact h.elim
theorem turn_lcf (x' c' : IE) : TurnD X.K (fun e => match ev C c' e with
        | .ok (.bool true) e2 => match ev C x' e2 with | .ok y e' => .ok (some y) e' | _ => .stuck
        | .ok (.bool false) e2 => .ok none e2
        | _ => .stuck) (ET X C W0 c') (EV X C W0 false x') := by
  intro Z F env σ H Qn Qy r h
  refine ⟨Z, F, env, r, ?_⟩
  simp only at h
  cases h0 : ev C c' env with
  | ok b e0 =>
    rw [h0] at h
    cases b with
    | bool b =>
      cases b with
      | true =>
        simp only at h
        refine ⟨true, rfl, fun F1 H1 s1 r1 => ?_⟩
        show if true = true then EV X C W0 false x' σ H1 Qy else Qn H1
        rw [if_pos rfl]
        refine ⟨Z, F1, e0, r1, ?_⟩
        cases h1 : ev C x' e0 with
        | ok y e1 =>
          rw [h1] at h
          intro F2 H2 v s2 r2 q2
          rw [Val.ff] at q2
          exact h F2 H2 (s1.trans s2) r2 v q2
        | exc c e1 => rw [h1] at h; exact h.elim
        | stuck => rw [h1] at h; exact h.elim
      | false =>
        refine ⟨false, rfl, fun F1 H1 s1 r1 => ?_⟩
        show if false = true then EV X C W0 false x' σ H1 Qy else Qn H1
        rw [if_neg Bool.false_ne_true]
        exact h F1 H1 s1 r1
    | _ => exact h.elim
  | exc c e1 => rw [h0] at h; exact h.elim
  | stuck => rw [h0] at h; exact h.elim
theorem lc_read {it : It} {t : Tg} {vs : List Nat} {pr fr : Bool} {f : Env → Res (Option D)} {tt : TT} {te : TE} {Z : Ent} {F H : Hp} {env : Env} {σ : L2.St} {Q : VK} (r : R X.K Z F env σ H) (tn : TurnD X.K f tt te) (tp : pr = true → isTp t = true) (ti : tgIn t vs = true)
    (h : Okr (match evIt C it env with
      | .ok xs e1 => if noOwn e1 vs && isLong xs then lcEnd vs e1 (lcGo f t vs xs e1) else .stuck
      | .exc c e1 => .exc c e1
      | .stuck => .stuck) (kP X.K fr Q Z F σ) (kX X.K W Z F σ)) : tLc (EI X C W pr it) (gT X.K t) tt te vs σ H Q := by
  refine ⟨Z, F, env, r, ?_⟩
  cases h0 : evIt C it env with
  | ok xs e1 =>
    rw [h0] at h
    simp only at h
    intro F1 H1 J s1 r1 wk Dd hD
    split at h
    · rename_i hc
      rw [Bool.and_eq_true] at hc
      obtain ⟨no, lg⟩ := hc
      have lg : xs.length ≤ big := of_decide_eq_true lg
      have bl := big_le
      have zp := r1.z0 hD
      have zx := r1.xn hD
      have zf : Z.F Dd = none := r1.f0.free (r1.f0n hD)
      cases hg : lcGo f t vs xs e1 with
      | ok ys0 e0 =>
        rw [hg] at h
        refine ⟨fun i m H => i + m = xs.length ∧ ∃ F2 e acc ds ys e', Same F1 F2 ∧ R X.K (Z.plus Dd (.lst acc)) F2 (wipeE e vs) (wipe σ vs) H ∧ Reps X.K F2 ds acc ∧ acc.length ≤ i ∧ lcGo f t vs (xs.drop i) e = .ok ys e' ∧ kP X.K fr Q Z F1 σ (.list (ds ++ ys)) (backE e1 e' vs),
          ⟨xs.length, Nat.zero_add _, F1, e1, [], [], ys0, e0, Same.refl _, (r1.wipes vs).plus hD, .nil, Nat.zero_le _, hg, kP.mono (F := F) h s1⟩, ?_⟩
        rintro i m H2 ⟨hm, F2, e, acc, ds, ys, e', s2, r2, rr, hl, hgo, fin⟩
        by_cases hi : i < xs.length
        · have hx : xs[i]? = some xs[i] := List.getElem?_eq_getElem hi
          rw [List.drop_eq_getElem_cons hi] at hgo
          obtain ⟨e3, rs, e4, zs, b1, b2, b3, b4⟩ := lcGo_cons hgo
          refine .inr ⟨wk.go i _ H2 (s2.trans r2.fh) hx, fun H' => (i + 1) + (m - 1) = xs.length ∧ ∃ F2 e acc ds ys e', Same F1 F2 ∧ R X.K (Z.plus Dd (.lst acc)) F2 (wipeE e vs) (wipe σ vs) H' ∧ Reps X.K F2 ds acc ∧ acc.length ≤ i + 1 ∧ lcGo f t vs (xs.drop (i + 1)) e = .ok ys e' ∧ kP X.K fr Q Z F1 σ (.list (ds ++ ys)) (backE e1 e' vs),
            fun H' hN => ⟨m - 1, by omega, hN⟩, fun v H3 hy => ?_⟩
          have y := (wk.mono s2).yld i _ v H2 H3 r2.fh hx hy
          obtain ⟨r3, it3⟩ := item_in tp r2 y
          refine ⟨_, F2, _, _, e3, r3, it3, b1, fun σ2 r4 hw => ⟨(hw vs ti).trans wipe_two, ?_⟩⟩
          refine tn (Z.plus Dd (.lst acc)) F2 e3 σ2 H3 _ _ r4 ?_
          rw [b2]
          intro F5 H5 s5 r5
          have rw5 := r5.wipes vs
          rw [hw vs ti, wipe_two] at rw5
          cases rs with
          | none => exact ⟨by omega, F5, e4, acc, ds, zs, e', s2.trans s5, rw5, rr.mono s5, Nat.le_succ_of_le hl, b3, by rw [b4] at fin; exact fin⟩
          | some y =>
            intro v5 q5
            refine ⟨acc, r5.pAt zp zx, by omega, by omega, F5, e4, acc ++ [v5], ds ++ [y], zs, e', s2.trans s5, rw5.chg zp zx zf _, (rr.mono s5).snoc q5, by rw [List.length_append, List.length_singleton]; omega, b3, ?_⟩
            rw [b4] at fin
            rw [List.append_assoc]
            exact fin
        · have hi : i = xs.length := by omega
          refine .inl ⟨wk.stop i H2 (s2.trans r2.fh) hi.symm, ?_⟩
          rw [List.drop_eq_nil_of_le (by omega)] at hgo
          cases hgo
          rw [List.append_nil] at fin
          have m2 := r2.minus zp zx
          have bk := r1.back s2 m2 no
          have fs : Fresh X.K Z F2 (backE e1 e vs) σ H2 (.list ds) Dd := ⟨⟨acc, r2.pAt zp zx, by omega, rr⟩, r2.pF zp zx zf, zp, zx, fun j x d hj1 hj2 hj3 => by
            by_cases hj : j ∈ vs
            · have q := List.all_eq_true.mp no j hj
              rw [backE_in hj hj1] at hj2
              rw [hj2] at q
              cases q
            · rw [backE_out hj] at hj1
              exact r2.pNe zp zx (i := j) (by rw [wipeE_out hj]; exact hj1) hj2 (by rw [wipe_out hj]; exact hj3) rfl⟩
          obtain ⟨F6, s6, r6, q6⟩ := fresh_val fr bk fs
          exact fin F6 H2 _ (s2.trans s6) r6 q6
      | exc c e0 => rw [hg] at h; exact h.elim
      | stuck => rw [hg] at h; exact h.elim
    · exact h.elim
  | exc c e1 => rw [h0] at h; exact h
  | stuck => rw [h0] at h; exact h.elim
end
end BT
namespace BT
open PySem PySem.Spec PyProof.Rows L2
/-! ## statements -/
section
variable (K : PySem.W.Frag) (W : WX)
def kXs (Z : Ent) (F : Hp) : String → Env → Prop := fun c env => ∀ F' σ' H', Same F F' → R K Z F' env σ' H' → W c H'
def RV (Z : Ent) (F : Hp) (env : Env) (σ : L2.St) (H : Hp) (own : Bool) (d : D) (v : V) : Prop := if own = true then ∃ p, v = .ref p ∧ Fresh K Z F env σ H d p else Rep K F d v
def kS (D : Ends) (Z : Ent) (F : Hp) : Fl → Env → Prop := fun f env => match f with
  | .next => ∀ F' σ' H', Same F F' → R K Z F' env σ' H' → D.nx σ' H'
  | .ret own d => ∀ F' σ' H' v, Same F F' → R K Z F' env σ' H' → RV K Z F' env σ' H' own d v → D.rt v H'
def tS (m : Env → Res Fl) : TS := fun D σ H => ∃ Z F env, R K Z F env σ H ∧ Okr (m env) (kS K D Z F) (kXs K W Z F)
end
section
variable {K : PySem.W.Frag} {W : WX} {Z : Ent} {F F' H H' : Hp} {env : Env} {σ : L2.St}
theorem kXs.mono {c : String} {e : Env} (h : kXs K W Z F c e) (s : Same F F') : kXs K W Z F' c e := fun F2 σ2 H2 s2 r => h F2 σ2 H2 (s.trans s2) r
theorem kXs.at {c : String} {e : Env} (h : kXs K W Z F c e) : kX K W Z F σ c e := fun F2 H2 s2 r => h F2 σ H2 s2 r
theorem kS.mono {D : Ends} {f : Fl} {e : Env} (h : kS K D Z F f e) (s : Same F F') : kS K D Z F' f e := by
  cases f with
  | next => exact fun F2 σ2 H2 s2 r => h F2 σ2 H2 (s.trans s2) r
  | ret o d => exact fun F2 σ2 H2 v s2 r => h F2 σ2 H2 v (s.trans s2) r
theorem okS_mono {D : Ends} {r : Res Fl} (h : Okr r (kS K D Z F) (kXs K W Z F)) (s : Same F F') : Okr r (kS K D Z F') (kXs K W Z F') := by
  cases r with
  | ok f e => exact kS.mono (F := F) h s
  | exc c e => exact kXs.mono (F := F) h s
  | stuck => exact h
/-- a value goes into a place -/
theorem R.put (r : R K Z F env σ H) {i : Nat} {fr : Bool} {d : D} {v : V} (h : Val K Z F env σ H fr d v) : R K Z F (env.set i (mkSlot fr d)) (σ.set i (some v)) H := by
  by_cases hi : i < env.length
  · cases fr with
    | false => rw [Val.ff] at h; exact r.setV hi h
    | true =>
      cases d with
      | list ds =>
        unfold Val at h
        rw [if_pos (show (true && isL (PyData.list ds)) = true from rfl)] at h
        obtain ⟨a, rfl, f⟩ := h
        exact r.setO hi f
      | _ => exact r.setV hi h
  · rw [List.set_eq_of_length_le (by omega), List.set_eq_of_length_le (by rw [← r.len]; omega)]
    exact r
/-- a value held while another is made -/
theorem val_hold {fr : Bool} {d : D} {v : V} (h : Val K Z F env σ H fr d v) : (Rep K F d v ∧ (fr && isL d) = false) ∨ ∃ p ds vs, fr = true ∧ d = .list ds ∧ v = .ref p ∧ Fresh K Z F env σ H d p ∧ H p = some (.lst vs) ∧ vs.length ≤ sizeLine ∧ Reps K F ds vs := by
  unfold Val at h
  split at h
  · rename_i hc
    obtain ⟨p, rfl, f⟩ := h
    rw [Bool.and_eq_true] at hc
    cases d with
    | list ds =>
      obtain ⟨vs, e, z, rr⟩ := f.ow
      exact .inr ⟨p, ds, vs, hc.1, rfl, rfl, f, e, z, rr⟩
    | _ => exact absurd hc.2 Bool.false_ne_true
  · rename_i hc
    exact .inl ⟨h, by simpa using hc⟩
theorem Val.of_rep {fr : Bool} {d : D} {v : V} (h : Rep K F d v) (n : (fr && isL d) = false) : Val K Z F env σ H fr d v := by
  unfold Val
  rw [n, if_neg Bool.false_ne_true]
  exact h
theorem Fresh.keep {d : D} {p : Addr} (f : Fresh K Z F env σ H d p) (r : R K Z F env σ H) {o : HO} (e : H p = some o) : R K (Z.plus p o) F env σ H := by
  have zf : Z.F p = none := r.f0.free f.nf
  refine ⟨r.fh, r.f0, fun b x e' => ?_, fun b x e' ne => ?_, fun b x e' => ?_, fun a e' => ?_, r.len, r.vl, fun i x d' e' e2 => ?_, r.ap⟩
  · by_cases hb : b = p
    · subst hb; rw [f.nf]; exact zf.symm
    · exact r.nw b x (upd_get hb e')
  · by_cases hb : b = p
    · subst hb
      have : upd Z.H b o b = some x := e'
      rw [upd_same] at this
      rw [e]; exact this
    · exact r.g b x (upd_get hb e') ne
  · by_cases hb : b = p
    · subst hb; exact ⟨o, e⟩
    · exact r.gx b x (upd_get hb e')
  · obtain ⟨o', q⟩ := r.xe a e'
    have ne : a ≠ p := fun z => f.nx (z ▸ e')
    exact ⟨o', show upd Z.H p o a = some o' by rw [upd_ne ne]; exact q⟩
  · obtain ⟨a, q1, q2, q3, q4⟩ := r.ow i x d' e' e2
    have ne : a ≠ p := fun z => f.ap i x d' e' e2 (z ▸ q1)
    refine ⟨a, q1, q2, q3, ?_⟩
    cases x with
    | own _ => exact show upd Z.H p o a = none by rw [upd_ne ne]; exact q4
    | inp _ => exact q4
    | _ => cases e2
end
section
variable {X : Cx} {C : Calls} {W : WX} {a b c e tg : Expr} {a' b' c' : IE} {pos p : Pos} {sts : List Stmt} {st : Stmt}
abbrev EX (X : Cx) (C : Calls) (W : WX) (s : IS) : TS := tS X.K W (exec C s)
abbrev EXs (X : Cx) (C : Calls) (W : WX) (s : ISs) : TS := tS X.K W (execs C s)
theorem pss_n : PSs X [] (EXs X C W .nil) := PSs.imp pss_nil fun D σ H ⟨Z, F, env, r, h⟩ => h F σ H (Same.refl F) r
theorem pss_c {s' : IS} {ss' : ISs} (h1 : PS X st (EX X C W s')) (h2 : PSs X sts (EXs X C W ss')) : PSs X (st :: sts) (EXs X C W (.cons s' ss')) := by
  refine PSs.imp (pss_cons h1 h2) fun D σ H ⟨Z, F, env, r, h⟩ => ⟨Z, F, env, r, ?_⟩
  simp only [execs] at h
  cases h1 : exec C s' env with
  | ok f e1 =>
    rw [h1] at h
    cases f with
    | next => exact fun F' σ' H' s2 r2 => ⟨Z, F', e1, r2, okS_mono h s2⟩
    | ret o d => exact h
  | exc c e1 => rw [h1] at h; exact h
  | stuck => rw [h1] at h; exact h.elim
/-- one expression, then what its value does -/
theorem one_s {fr : Bool} {En : Ends} {σ : L2.St} {H : Hp} {Z : Ent} {F : Hp} {env : Env} {R' : V → Hp → Prop} (r : R X.K Z F env σ H) (g : D → Env → Res Fl)
    (h : Okr (match ev C a' env with | .ok x e1 => g x e1 | .exc c e => .exc c e | .stuck => .stuck) (kS X.K En Z F) (kXs X.K W Z F))
    (fin : ∀ x e1 F1 H1 v, Okr (g x e1) (kS X.K En Z F1) (kXs X.K W Z F1) → R X.K Z F1 e1 σ H1 → Val X.K Z F1 e1 σ H1 fr x v → R' v H1) : EV X C W fr a' σ H R' := by
  refine ⟨Z, F, env, r, ?_⟩
  cases h1 : ev C a' env with
  | ok x e1 =>
    rw [h1] at h
    intro F1 H1 v s1 r1 q1
    exact fin x e1 F1 H1 v (okS_mono h s1) r1 q1
  | exc c e1 => rw [h1] at h; exact kXs.at h
  | stuck => rw [h1] at h; exact h.elim
theorem ps_as {i : Nat} {x : Str} {pos' : Pos} (h : ∀ te, PE X e te → PS X (.Assign [.Name x pos'] e pos) (tAsg te (gName i))) (he : PE X e (EV X C W (freshE a') a')) : PS X (.Assign [.Name x pos'] e pos) (EX X C W (.asg i a')) := by
  refine PS.imp (h _ he) fun D σ H ⟨Z, F, env, r, h⟩ => ?_
  simp only [exec] at h
  refine one_s r (fun d e1 => .ok .next (e1.set i (mkSlot (freshE a') d))) h fun x e1 F1 H1 v h r1 q1 => ?_
  exact h F1 _ H1 (Same.refl _) (r1.put q1)
theorem ps_asLc {i : Nat} {x : Str} {pos' : Pos} {te : TE} (h : PS X (.Assign [.Name x pos'] e pos) (tAsg te (gName i))) (he : ∀ σ H Q, EV X C W (freshE a') a' σ H Q → te σ H Q) : PS X (.Assign [.Name x pos'] e pos) (EX X C W (.asg i a')) := by
  refine PS.imp h fun D σ H ⟨Z, F, env, r, h⟩ => ?_
  simp only [exec] at h
  refine he _ _ _ (one_s r (fun d e1 => .ok .next (e1.set i (mkSlot (freshE a') d))) h fun x e1 F1 H1 v h r1 q1 => ?_)
  exact h F1 _ H1 (Same.refl _) (r1.put q1)
theorem ps_asT {t : Tg} (he : PE X e (EV X C W false a')) (hg : PG X tg (gT X.K t)) (hs : swapsWithSole [tg] e pos.line X.env = pure false) (hw : swappedStores [tg] e X.env = pure none)
    (h1 : (assignEach [tg] X.env).map (·.2) = [assign tg X.env]) : PS X (.Assign [tg] e pos) (EX X C W (.asgT t a')) := by
  refine PS.imp (ps_asg he hg hs hw h1) fun D σ H ⟨Z, F, env, r, h⟩ => ?_
  simp only [exec] at h
  refine one_s r (fun d e1 => match bindT t d e1 with | some e2 => .ok .next e2 | none => .stuck) h fun x e1 F1 H1 v h r1 q1 => ?_
  rw [Val.ff] at q1
  cases hb : bindT t x e1 with
  | none => rw [hb] at h; exact h.elim
  | some e2 => rw [hb] at h; exact gT_sub r1 q1 hb fun σ2 r2 _ => h F1 σ2 H1 (Same.refl _) r2
theorem ps_rt {fr : Bool} (he : PE X e (EV X C W false a')) : PS X (.Return (some e) pos) (EX X C W (.ret a')) := by
  refine PS.imp (ps_ret he) fun D σ H ⟨Z, F, env, r, h⟩ => ?_
  simp only [exec] at h
  refine one_s r (fun d e1 => .ok (.ret false d) e1) h fun x e1 F1 H1 v h r1 q1 => ?_
  rw [Val.ff] at q1
  exact h F1 σ H1 v (Same.refl _) r1 (by unfold RV; rw [if_neg Bool.false_ne_true]; exact q1)
theorem ps_rtF (he : PE X e (EV X C W (freshE a') a')) : PS X (.Return (some e) pos) (EX X C W (.retF a')) := by
  refine PS.imp (ps_ret he) fun D σ H ⟨Z, F, env, r, h⟩ => ?_
  simp only [exec] at h
  refine one_s r (fun d e1 => if freshE a' && isTy d .list then .ok (.ret true d) e1 else .stuck) h fun x e1 F1 H1 v h r1 q1 => ?_
  split at h
  · rename_i hc
    rw [Bool.and_eq_true] at hc
    rw [hc.1] at q1
    rcases val_hold q1 with ⟨_, n⟩ | ⟨p, ds, vs, _, rfl, rfl, f, _⟩
    · cases x <;> first | exact absurd hc.2 Bool.false_ne_true | cases n
    · exact h F1 σ H1 _ (Same.refl _) r1 (by unfold RV; rw [if_pos rfl]; exact ⟨p, rfl, f⟩)
  · exact h.elim
theorem ps_rtO {i : Nat} (he : PE X e (tVar i)) : PS X (.Return (some e) pos) (EX X C W (.retO i)) := by
  refine PS.imp (ps_ret he) fun D σ H ⟨Z, F, env, r, h⟩ => ?_
  simp only [exec] at h
  split at h
  · rename_i d hs
    obtain ⟨a, e1, r1, f⟩ := r.give hs
    exact ⟨_, e1, h F σ H _ (Same.refl _) r1 (by unfold RV; rw [if_pos rfl]; exact ⟨a, rfl, f⟩)⟩
  · exact h.elim
theorem ps_ex (hs : swapsWith e none pos.line X.env = pure false) (he : PE X e (EV X C W false a')) : PS X (.Expr e pos) (EX X C W (.ex a')) := by
  refine PS.imp (ps_expr he hs) fun D σ H ⟨Z, F, env, r, h⟩ => ?_
  simp only [exec] at h
  exact one_s r (fun d e1 => .ok .next e1) h fun x e1 F1 H1 v h r1 q1 => h F1 σ H1 (Same.refl _) r1
theorem ps_ps : PS X (.Pass pos) (EX X C W .pass) := PS.imp ps_pass fun D σ H ⟨Z, F, env, r, h⟩ => h F σ H (Same.refl _) r
theorem ps_rs {cl : String} (hW : ∀ c H, ¬ W c H) : PS X st (EX X C W (.raise cl)) := PS.imp ps_never fun D σ H ⟨Z, F, env, r, h⟩ => hW _ _ (h F σ H (Same.refl _) r)
theorem ps_ap {o : Expr} {apos cpos : Pos} {i : Nat} (ho : PE X o (tVar i)) (hb : PE X b (EV X C W false b')) (hsw : swapsWith (.Call (.Attribute o "append" apos) [b] [] cpos) none pos.line X.env = pure false)
    (hbase : attributeBase o "append" X.env (eval o X.env) = eval o X.env)
    (hfew : ((backTo cpos (starEach [b] X.env)).all (fun x => !x.1) && (backToKw cpos (keywordEach [] X.env)).all (fun x => x.1.isSome)
      && decide ([b].length + ([] : List Keyword).length + (if ([] : List Keyword).isEmpty then 0 else 1) < 30)) = true)
    (hline : (apos.endLine == cpos.line) = true) (hs : starEach [b] X.env = (false, eval b X.env) :: starEach [] X.env) (hplain : (backTo cpos (starEach [] X.env)).any (·.1) = false) :
    PS X (.Expr (.Call (.Attribute o "append" apos) [b] [] cpos) pos) (EX X C W (.app i b')) := by
  have he : PE X (.Call (.Attribute o "append" apos) [b] [] cpos) (fun σ H Q => ∃ (Qh : Hp → Prop), (∀ v H', Qh H' → Q v H') ∧ ∃ Z F env, R X.K Z F env σ H ∧ Okr (exec C (.app i b') env) (fun f e => f = .next ∧ ∀ F' H', Same F F' → R X.K Z F' e σ H' → Qh H') (kX X.K W Z F σ)) :=
    ⟨fun pins s σ H Q I ⟨Qh, hq, Z, F, env, r, h⟩ => thn (pe_app ho hb hbase hfew hline hs hplain r h pins s I) fun v s' ⟨x, H', I', rx, q⟩ => ⟨x, H', I', rx, hq x H' q⟩⟩
  refine PS.imp (ps_expr he hsw) fun D σ H ⟨Z, F, env, r, h⟩ => ⟨fun H' => D.nx σ H', fun v H' q => q, Z, F, env, r, ?_⟩
  have nx : ∀ f e1, exec C (.app i b') env = .ok f e1 → f = .next := fun f e1 q => by
    simp only [exec] at q
    split at q
    · split at q
      · split at q
        · split at q
          · cases q; rfl
          · cases q
        · cases q
      · cases q
      · cases q
    · cases q
  cases h1 : exec C (.app i b') env with
  | ok f e1 =>
    rw [h1] at h
    have hf := nx f e1 h1
    subst hf
    exact ⟨rfl, fun F' H' s' r' => h F' σ H' s' r'⟩
  | exc c e1 => rw [h1] at h; exact kXs.at h
  | stuck => rw [h1] at h; exact h.elim
theorem ps_ifd {sa sb : ISs} {as bs : List Stmt} (hc : PT X c (ET X C W c')) (ha : PSs X as (EXs X C W sa)) (hb : PSs X bs (EXs X C W sb)) : PS X (.If c as bs pos) (EX X C W (.if_ c' sa sb)) := by
  refine PS.imp (ps_if hc ha hb) fun D σ H ⟨Z, F, env, r, h⟩ => ⟨Z, F, env, r, ?_⟩
  simp only [exec] at h
  cases h1 : ev C c' env with
  | ok x e1 =>
    rw [h1] at h
    cases x with
    | bool t =>
      refine ⟨t, rfl, fun F1 H1 s1 r1 => ?_⟩
      cases t with
      | true =>
        show if true = true then EXs X C W sa D σ H1 else EXs X C W sb D σ H1
        rw [if_pos rfl]
        exact ⟨Z, F1, e1, r1, okS_mono h s1⟩
      | false =>
        show if false = true then EXs X C W sa D σ H1 else EXs X C W sb D σ H1
        rw [if_neg Bool.false_ne_true]
        exact ⟨Z, F1, e1, r1, okS_mono h s1⟩
    | _ => exact h.elim
  | exc c e1 => rw [h1] at h; exact kXs.at h
  | stuck => rw [h1] at h; exact h.elim
theorem ps_fo {it : It} {t : Tg} {pr : Bool} {body : ISs} {iter : Expr} {bs : List Stmt} (hp : PassesOwn (model X.prog X.w) X.A X.env X.xe) (hc : X.calm = true) (tp : pr = true → isTp t = true) (hi : PI X tg iter (EI X C W pr it)) (hg : PG X tg (gT X.K t)) (hb : PSs X bs (EXs X C W body))
    (hs : ∀ x, foldedSetIterable iter X.env x = pure x) : PS X (.For tg iter bs [] pos) (EX X C W (.for_ t it body)) := by
  refine PS.imp (ps_for hp hc hi hg hb hs) fun D σ H ⟨Z, F, env, r, h⟩ => ⟨Z, F, env, r, ?_⟩
  simp only [exec] at h
  cases h1 : evIt C it env with
  | ok xs e1 =>
    rw [h1] at h
    intro F1 H1 J s1 r1 wk
    refine ⟨fun i m σ H => i + m = xs.length ∧ ∃ F2 e, Same F1 F2 ∧ R X.K Z F2 e σ H ∧ Okr (forGo t (execs C body) (xs.drop i) e) (kS X.K D Z F1) (kXs X.K W Z F1), ⟨xs.length, Nat.zero_add _, F1, e1, Same.refl _, r1, okS_mono h s1⟩, ?_⟩
    rintro i m σ2 H2 ⟨hm, F2, e, s2, r2, h2⟩
    by_cases hi : i < xs.length
    · have hx : xs[i]? = some xs[i] := List.getElem?_eq_getElem hi
      rw [List.drop_eq_getElem_cons hi, forGo] at h2
      refine .inr ⟨wk.go i _ H2 (s2.trans r2.fh) hx, fun σ' H' => (i + 1) + (m - 1) = xs.length ∧ ∃ F2 e, Same F1 F2 ∧ R X.K Z F2 e σ' H' ∧ Okr (forGo t (execs C body) (xs.drop (i + 1)) e) (kS X.K D Z F1) (kXs X.K W Z F1),
        fun σ' H' hN => ⟨m - 1, by omega, hN⟩, fun v H3 hy => ?_⟩
      have y := (wk.mono s2).yld i _ v H2 H3 r2.fh hx hy
      obtain ⟨r3, it3⟩ := item_in tp r2 y
      cases hb : bindT t xs[i] e with
      | none => rw [hb] at h2; exact h2.elim
      | some e3 =>
        rw [hb] at h2
        simp only at h2
        refine ⟨Z, F2, _, _, e3, r3, it3, hb, fun σ4 r4 _ => ⟨Z, F2, e3, r4, ?_⟩⟩
        cases h3 : execs C body e3 with
        | ok f e4 =>
          rw [h3] at h2
          cases f with
          | next => exact fun F' σ' H' s' r' => ⟨by omega, F', e4, s2.trans s', r', h2⟩
          | ret o d => exact kS.mono (F := F1) (D := D) (f := .ret o d) h2 s2
        | exc c e4 => rw [h3] at h2; exact kXs.mono (F := F1) h2 s2
        | stuck => rw [h3] at h2; exact h2.elim
    · have hi : i = xs.length := by omega
      rw [List.drop_eq_nil_of_le (by omega)] at h2
      exact .inl ⟨wk.stop i H2 (s2.trans r2.fh) hi.symm, h2 F2 σ2 H2 s2 r2⟩
  | exc c e1 => rw [h1] at h; exact kXs.at h
  | stuck => rw [h1] at h; exact h.elim
theorem ps_wh {body : ISs} {bs : List Stmt} (hp : PassesOwn (model X.prog X.w) X.A X.env X.xe) (hc : PT X c (ET X C W c')) (hb : PSs X bs (EXs X C W body)) : PS X (.While c bs [] pos) (EX X C W (.while_ c' body)) := by
  refine PS.imp (ps_while hp hc hb) fun D σ H ⟨Z, F, env, r, h⟩ => ?_
  simp only [exec] at h
  refine ⟨fun m σ H => ∃ F2 e, Same F F2 ∧ R X.K Z F2 e σ H ∧ Okr (whileGo (ev C c') (execs C body) m e) (kS X.K D Z F) (kXs X.K W Z F), ⟨fuel, F, env, Same.refl _, r, h⟩, ?_⟩
  rintro m σ2 H2 ⟨F2, e, s2, r2, h2⟩
  cases m with
  | zero => exact h2.elim
  | succ m =>
    rw [whileGo] at h2
    refine ⟨Z, F2, e, r2, ?_⟩
    cases h1 : ev C c' e with
    | ok x e1 =>
      rw [h1] at h2
      cases x with
      | bool t =>
        refine ⟨t, rfl, fun F3 H3 s3 r3 => ?_⟩
        cases t with
        | true =>
          simp only at h2
          show if true = true then ∃ N : L2.St → Hp → Prop, (∀ σ' H', N σ' H' → ∃ m', m' < m + 1 ∧ _) ∧ _ else _
          rw [if_pos rfl]
          refine ⟨fun σ' H' => ∃ F2 e, Same F F2 ∧ R X.K Z F2 e σ' H' ∧ Okr (whileGo (ev C c') (execs C body) m e) (kS X.K D Z F) (kXs X.K W Z F), fun σ' H' q => ⟨m, Nat.lt_succ_self _, q⟩, Z, F3, e1, r3, ?_⟩
          cases h3 : execs C body e1 with
          | ok f e4 =>
            rw [h3] at h2
            cases f with
            | next => exact fun F' σ' H' s' r' => ⟨F', e4, (s2.trans s3).trans s', r', h2⟩
            | ret o d => exact kS.mono (F := F) (D := D) (f := .ret o d) h2 (s2.trans s3)
          | exc c e4 => rw [h3] at h2; exact kXs.mono (F := F) h2 (s2.trans s3)
          | stuck => rw [h3] at h2; exact h2.elim
        | false =>
          show if false = true then _ else D.nx σ2 H3
          rw [if_neg Bool.false_ne_true]
          exact h2 F3 σ2 H3 (s2.trans s3) r3
      | _ => exact h2.elim
    | exc c e1 => rw [h1] at h2; exact kXs.at (kXs.mono (F := F) h2 s2)
    | stuck => rw [h1] at h2; exact h2.elim

/-! several places at once -/
theorem two_hold {fr fr2 : Bool} {En : Ends} {σ : L2.St} {H : Hp} {Z : Ent} {F : Hp} {env : Env} {R' : V → V → Hp → Prop} (r : R X.K Z F env σ H) (g : D → D → Env → Res Fl)
    (h : Okr (match ev C a' env with
      | .ok x e1 => match ev C b' e1 with
        | .ok y e2 => g x y e2
        | .exc c e => .exc c e
        | .stuck => .stuck
      | .exc c e => .exc c e
      | .stuck => .stuck) (kS X.K En Z F) (kXs X.K W Z F))
    (fin : ∀ x y e2 F2 H2 v u, Okr (g x y e2) (kS X.K En Z F2) (kXs X.K W Z F2) → R X.K Z F2 e2 σ H2 → Val X.K Z F2 e2 σ H2 fr x v → Val X.K Z F2 e2 σ H2 fr2 y u → (∀ p, v = .ref p → u = .ref p → (fr && isL x) = false ∨ (fr2 && isL y) = false) → R' v u H2) :
    EV X C W fr a' σ H fun v H1 => EV X C W fr2 b' σ H1 fun u H2 => R' v u H2 := by
  refine ⟨Z, F, env, r, ?_⟩
  cases h1 : ev C a' env with
  | ok x e1 =>
    rw [h1] at h
    simp only at h
    intro F1 H1 v s1 r1 q1
    rcases val_hold q1 with ⟨q, n⟩ | ⟨p, ds, vs, rfl, rfl, rfl, f, hp, z, rr⟩
    · refine ⟨Z, F1, e1, r1, ?_⟩
      cases h2 : ev C b' e1 with
      | ok y e2 =>
        rw [h2] at h
        intro F2 H2 u s2 r2 q2
        exact fin x y e2 F2 H2 v u (okS_mono h (s1.trans s2)) r2 (Val.of_rep (q.mono s2) n) q2 fun _ _ _ => .inl n
      | exc c e2 => rw [h2] at h; exact kXs.at (kXs.mono (F := F) h s1)
      | stuck => rw [h2] at h; exact h.elim
    · have r1' := f.keep r1 hp
      refine ⟨Z.plus p (.lst vs), F1, e1, r1', ?_⟩
      have zf : Z.F p = none := r1.f0.free f.nf
      cases h2 : ev C b' e1 with
      | ok y e2 =>
        rw [h2] at h
        intro F2 H2 u s2 r2 q2
        have m2 := r2.minus f.n0 f.nx
        have f2 : Fresh X.K Z F2 e2 σ H2 (.list ds) p := ⟨⟨vs, r2.pAt f.n0 f.nx, z, rr.mono s2⟩, r2.pF f.n0 f.nx zf, f.n0, f.nx, fun i x d e e' e3 => r2.pNe f.n0 f.nx e e' e3 rfl⟩
        refine fin _ y e2 F2 H2 _ u (okS_mono h (s1.trans s2)) m2 (by unfold Val; rw [if_pos (show (true && isL (PyData.list ds)) = true from rfl)]; exact ⟨p, rfl, f2⟩) ?_ ?_
        · rcases val_hold q2 with ⟨q, n⟩ | ⟨p2, ds2, vs2, rfl, rfl, rfl, g2, _⟩
          · exact Val.of_rep q n
          · unfold Val
            rw [if_pos (show (true && isL (PyData.list ds2)) = true from rfl)]
            have ne : p2 ≠ p := fun z => by
              have g0 : upd Z.H p (.lst vs) p2 = none := g2.n0
              rw [z, upd_same] at g0; cases g0
            exact ⟨p2, rfl, g2.ow, g2.nf, by
              have g0 : upd Z.H p (.lst vs) p2 = none := g2.n0
              rwa [upd_ne ne] at g0, g2.nx, g2.ap⟩
        · intro p' e3 e4
          cases e3
          rcases val_hold q2 with ⟨q, n⟩ | ⟨p2, ds2, vs2, rfl, rfl, rfl, g2, _⟩
          · exact .inr n
          · cases e4
            have g0 : upd Z.H p (.lst vs) p = none := g2.n0
            rw [upd_same] at g0; cases g0
      | exc c e2 =>
        rw [h2] at h
        exact fun F' H' s' r' => h F' σ H' (s1.trans s') (r'.minus f.n0 f.nx)
      | stuck => rw [h2] at h; exact h.elim
  | exc c e1 => rw [h1] at h; exact kXs.at h
  | stuck => rw [h1] at h; exact h.elim
/-- a value stays itself when another goes into a place -/
theorem val_put {K : PySem.W.Frag} {Z : Ent} {F H : Hp} {env : Env} {σ : L2.St} {fr fr2 : Bool} {x y : D} {v u : V} {i : Nat} (h : Val K Z F env σ H fr2 y u) (g : Val K Z F env σ H fr x v) (r : R K Z F env σ H)
    (ne : ∀ p, v = .ref p → u = .ref p → (fr && isL x) = false ∨ (fr2 && isL y) = false) : Val K Z F (env.set i (mkSlot fr x)) (σ.set i (some v)) H fr2 y u := by
  rcases val_hold h with ⟨q, n⟩ | ⟨p, ds, vs, rfl, rfl, rfl, f, _⟩
  · exact Val.of_rep q n
  · unfold Val
    rw [if_pos (show (true && isL (PyData.list ds)) = true from rfl)]
    refine ⟨p, rfl, f.ow, f.nf, f.n0, f.nx, fun j z d e e2 e3 => ?_⟩
    rcases set_at e with ⟨rfl, z1⟩ | ⟨m, e⟩
    · subst z1
      by_cases hj : j < σ.length
      · rw [List.getElem?_set_self hj] at e3
        cases e3
        rcases ne p rfl rfl with n | n
        · cases fr <;> cases x <;> first | exact Bool.noConfusion (show true = false from n) | cases e2
        · cases n
      · rw [List.getElem?_eq_none (by rw [List.length_set]; omega)] at e3
        cases e3
    · rw [List.getElem?_set_ne (Ne.symm m)] at e3
      exact f.ap j z d e e2 e3
theorem put2 {K : PySem.W.Frag} {Z : Ent} {F H : Hp} {env : Env} {σ : L2.St} {fr fr2 : Bool} {x y : D} {v u : V} {i j : Nat} (r : R K Z F env σ H) (g : Val K Z F env σ H fr x v) (h : Val K Z F env σ H fr2 y u)
    (ne : ∀ p, v = .ref p → u = .ref p → (fr && isL x) = false ∨ (fr2 && isL y) = false) : R K Z F ((env.set i (mkSlot fr x)).set j (mkSlot fr2 y)) ((σ.set i (some v)).set j (some u)) H :=
  (r.put g).put (val_put h g r ne)
theorem as2_read {i j : Nat} {En : Ends} {σ : L2.St} {H : Hp} {Z : Ent} {F : Hp} {env : Env} (r : R X.K Z F env σ H) (h : Okr (exec C (.asg2 i j a' b') env) (kS X.K En Z F) (kXs X.K W Z F)) :
    EV X C W (freshE a') a' σ H fun v H1 => EV X C W (freshE b') b' σ H1 fun u H2 => ∀ H3, (H3 = H2 ∨ ∃ p o, H2 p = none ∧ H3 = upd H2 p o) → En.nx ((σ.set i (some v)).set j (some u)) H3 := by
  simp only [exec] at h
  refine two_hold r (fun x y e2 => .ok .next ((e2.set i (mkSlot (freshE a') x)).set j (mkSlot (freshE b') y))) h fun x y e2 F2 H2 v u h r2 q1 q2 ne H3 h3 => ?_
  have rr := put2 (i := i) (j := j) r2 q1 q2 ne
  rcases h3 with rfl | ⟨p, o, hp, rfl⟩
  · exact h F2 _ _ (Same.refl _) rr
  · exact h F2 _ _ (Same.refl _) (rr.junk hp)
theorem EV.out {fr : Bool} {σ : L2.St} {H : Hp} {Q Q' : VK} (h : EV X C W fr a' σ H Q) (q : ∀ v H', Q v H' → Q' v H') : EV X C W fr a' σ H Q' := by
  obtain ⟨Z, F, env, r, h⟩ := h
  refine ⟨Z, F, env, r, ?_⟩
  cases h1 : ev C a' env with
  | ok x e1 =>
    rw [h1] at h
    exact fun F' H' v s' r' q' => q v H' (h F' H' v s' r' q')
  | exc c e1 => rw [h1] at h; exact h
  | stuck => rw [h1] at h; exact h.elim
theorem ps_as2 {i j : Nat} {tga : Expr} {k2 : Nat} {pt2 : Pos} (h : ∀ ta : TA, PA X [a, b] ta → PS X (.Assign [tga] (.Tuple [a, b] k2 pt2) pos) (tPar i j ta)) (ha : PE X a (EV X C W (freshE a') a')) (hb : PE X b (EV X C W (freshE b') b'))
    (hs : starEach [a, b] X.env = (false, eval a X.env) :: starEach [b] X.env) (hs2 : starEach [b] X.env = (false, eval b X.env) :: starEach [] X.env) : PS X (.Assign [tga] (.Tuple [a, b] k2 pt2) pos) (EX X C W (.asg2 i j a' b')) :=
  PS.imp (h _ (pa_cons ha (pa_cons hb pa_nil hs2) hs)) fun D σ H ⟨Z, F, env, r, h⟩ => (as2_read r h).out fun v H1 q => q.out fun u H2 q => ⟨v, u, rfl, q H2 (.inl rfl)⟩
/-- .. through a tuple -/
theorem ps_as2t {i j : Nat} {n1 n2 : Expr} {kt k2 : Nat} {pt pt2 : Pos} (hc : X.calm = true) (hs0 : swapsWithSole [.Tuple [n1, n2] kt pt] (.Tuple [a, b] k2 pt2) pos.line X.env = pure false) (hw : swappedStores [.Tuple [n1, n2] kt pt] (.Tuple [a, b] k2 pt2) X.env = pure none)
    (h1 : (assignEach [.Tuple [n1, n2] kt pt] X.env).map (·.2) = [assign (.Tuple [n1, n2] kt pt) X.env]) (g1 : PG X n1 (gName i)) (g2 : PG X n2 (gName j)) (s1 : (assignEach [n1, n2] X.env).map (·.2) = assign n1 X.env :: (assignEach [n2] X.env).map (·.2))
    (s2 : (assignEach [n2] X.env).map (·.2) = assign n2 X.env :: (assignEach [] X.env).map (·.2)) (hn : (assignEach [n1, n2] X.env).length = 2) (hst : (assignEach [n1, n2] X.env).findIdx? (·.1) = none)
    (ha : PE X a (EV X C W (freshE a') a')) (hb : PE X b (EV X C W (freshE b') b'))
    (hs : starEach [a, b] X.env = (false, eval a X.env) :: starEach [b] X.env) (hs2 : starEach [b] X.env = (false, eval b X.env) :: starEach [] X.env) : PS X (.Assign [.Tuple [n1, n2] kt pt] (.Tuple [a, b] k2 pt2) pos) (EX X C W (.asg2 i j a' b')) := by
  refine PS.imp (ps_asg (pe_tup (pa_cons ha (pa_cons hb pa_nil hs2) hs)) (pg_tup hc (pgs_cons g1 (pgs_cons g2 pgs_nil s2) s1) hn hst) hs0 hw h1) fun D σ H ⟨Z, F, env, r, h⟩ => ?_
  refine (as2_read r h).out fun v H1 q => q.out fun u H2 q => ⟨by show 2 ≤ sizeLine; decide, fun p hp => ⟨p, [v, u], rfl, .inl (.inl upd_same), rfl, v, [u], rfl, u, [], rfl, rfl, q _ (.inr ⟨p, _, hp, rfl⟩)⟩⟩
theorem as3_read {i j l : Nat} {En : Ends} {σ : L2.St} {H : Hp} {Z : Ent} {F : Hp} {env : Env} (r : R X.K Z F env σ H) (h : Okr (exec C (.asg3 i j l a' b' c') env) (kS X.K En Z F) (kXs X.K W Z F)) :
    EV X C W false a' σ H fun v H1 => EV X C W false b' σ H1 fun u H2 => EV X C W (freshE c') c' σ H2 fun w H3 => ∀ H4, (H4 = H3 ∨ ∃ p o, H3 p = none ∧ H4 = upd H3 p o) → En.nx (((σ.set i (some v)).set j (some u)).set l (some w)) H4 := by
  simp only [exec] at h
  refine ⟨Z, F, env, r, ?_⟩
  cases h1 : ev C a' env with
  | ok x e1 =>
    rw [h1] at h
    simp only at h
    intro F1 H1 v s1 r1 q1
    rw [Val.ff] at q1
    refine ⟨Z, F1, e1, r1, ?_⟩
    cases h2 : ev C b' e1 with
    | ok y e2 =>
      rw [h2] at h
      simp only at h
      intro F2 H2 u s2 r2 q2
      rw [Val.ff] at q2
      refine ⟨Z, F2, e2, r2, ?_⟩
      cases h3 : ev C c' e2 with
      | ok z e3 =>
        rw [h3] at h
        intro F3 H3 w s3 r3 q3 H4 h4
        have q1' : Val X.K Z F3 e3 σ H3 false x v := by rw [Val.ff]; exact q1.mono (s2.trans s3)
        have q2' : Val X.K Z F3 e3 σ H3 false y u := by rw [Val.ff]; exact q2.mono s3
        have ra := r3.put (i := i) q1'
        have qa : Val X.K Z F3 (e3.set i (mkSlot false x)) (σ.set i (some v)) H3 false y u := by rw [Val.ff]; exact q2.mono s3
        have q3a := val_put (i := i) q3 q1' r3 fun _ _ _ => .inl rfl
        have rb := ra.put (i := j) qa
        have q3b := val_put (i := j) q3a qa ra fun _ _ _ => .inl rfl
        have rc := rb.put (i := l) q3b
        rcases h4 with rfl | ⟨p, o, hp, rfl⟩
        · exact h F3 _ _ ((s1.trans s2).trans s3) rc
        · exact h F3 _ _ ((s1.trans s2).trans s3) (rc.junk hp)
      | exc c e3 => rw [h3] at h; exact kXs.at (kXs.mono (F := F) h (s1.trans s2))
      | stuck => rw [h3] at h; exact h.elim
    | exc c e2 => rw [h2] at h; exact kXs.at (kXs.mono (F := F) h s1)
    | stuck => rw [h2] at h; exact h.elim
  | exc c e1 => rw [h1] at h; exact kXs.at h
  | stuck => rw [h1] at h; exact h.elim
theorem ps_as3 {i j l : Nat} {tga : Expr} {k2 : Nat} {pt2 : Pos} (h : ∀ ta : TA, PA X [a, b, c] ta → PS X (.Assign [tga] (.Tuple [a, b, c] k2 pt2) pos) (tPar3 i j l ta)) (ha : PE X a (EV X C W false a')) (hb : PE X b (EV X C W false b')) (hcc : PE X c (EV X C W (freshE c') c'))
    (hs : starEach [a, b, c] X.env = (false, eval a X.env) :: starEach [b, c] X.env) (hs2 : starEach [b, c] X.env = (false, eval b X.env) :: starEach [c] X.env) (hs3 : starEach [c] X.env = (false, eval c X.env) :: starEach [] X.env) : PS X (.Assign [tga] (.Tuple [a, b, c] k2 pt2) pos) (EX X C W (.asg3 i j l a' b' c')) :=
  PS.imp (h _ (pa_cons ha (pa_cons hb (pa_cons hcc pa_nil hs3) hs2) hs)) fun D σ H ⟨Z, F, env, r, h⟩ => (as3_read r h).out fun v H1 q => q.out fun u H2 q => q.out fun w H3 q => ⟨v, u, w, rfl, q H3 (.inl rfl)⟩
theorem ps_as3t {i j l : Nat} {n1 n2 n3 : Expr} {kt k2 : Nat} {pt pt2 : Pos} (hc : X.calm = true) (hs0 : swapsWithSole [.Tuple [n1, n2, n3] kt pt] (.Tuple [a, b, c] k2 pt2) pos.line X.env = pure false) (hw : swappedStores [.Tuple [n1, n2, n3] kt pt] (.Tuple [a, b, c] k2 pt2) X.env = pure none)
    (h1 : (assignEach [.Tuple [n1, n2, n3] kt pt] X.env).map (·.2) = [assign (.Tuple [n1, n2, n3] kt pt) X.env]) (g1 : PG X n1 (gName i)) (g2 : PG X n2 (gName j)) (g3 : PG X n3 (gName l)) (s1 : (assignEach [n1, n2, n3] X.env).map (·.2) = assign n1 X.env :: (assignEach [n2, n3] X.env).map (·.2))
    (s2 : (assignEach [n2, n3] X.env).map (·.2) = assign n2 X.env :: (assignEach [n3] X.env).map (·.2)) (s3 : (assignEach [n3] X.env).map (·.2) = assign n3 X.env :: (assignEach [] X.env).map (·.2))
    (hn : (assignEach [n1, n2, n3] X.env).length = 3) (hst : (assignEach [n1, n2, n3] X.env).findIdx? (·.1) = none)
    (ha : PE X a (EV X C W false a')) (hb : PE X b (EV X C W false b')) (hcc : PE X c (EV X C W (freshE c') c'))
    (hs : starEach [a, b, c] X.env = (false, eval a X.env) :: starEach [b, c] X.env) (hs2 : starEach [b, c] X.env = (false, eval b X.env) :: starEach [c] X.env) (hs3 : starEach [c] X.env = (false, eval c X.env) :: starEach [] X.env) :
    PS X (.Assign [.Tuple [n1, n2, n3] kt pt] (.Tuple [a, b, c] k2 pt2) pos) (EX X C W (.asg3 i j l a' b' c')) := by
  refine PS.imp (ps_asg (pe_tup (pa_cons ha (pa_cons hb (pa_cons hcc pa_nil hs3) hs2) hs)) (pg_tup hc (pgs_cons g1 (pgs_cons g2 (pgs_cons g3 pgs_nil s3) s2) s1) hn hst) hs0 hw h1) fun D σ H ⟨Z, F, env, r, h⟩ => ?_
  refine (as3_read r h).out fun v H1 q => q.out fun u H2 q => q.out fun w H3 q => ⟨by show 3 ≤ sizeLine; decide, fun p hp => ⟨p, [v, u, w], rfl, .inl (.inl upd_same), rfl, v, [u, w], rfl, u, [w], rfl, w, [], rfl, rfl, q _ (.inr ⟨p, _, hp, rfl⟩)⟩⟩
/-! a place's list: an item; a place's int or list: op= -/
theorem ixN_at {xs : List D} {j : Int} {d : D} (h : atD xs j = some d) : ixN xs.length j = some (if 0 ≤ j then j.toNat else (j + xs.length).toNat) := by
  unfold atD at h
  unfold ixN
  split at h
  · rename_i h0
    split at h
    · rename_i h1; rw [if_pos h0, if_pos h1, if_pos h0]
    · cases h
  · rename_i h0
    split at h
    · rename_i h1; rw [if_neg h0, if_pos h1, if_neg h0]
    · cases h
theorem ps_si {o ix : Expr} {spos : Pos} {i : Nat} (ho : PE X o (tVar i)) (hi : PE X ix (EV X C W false b')) (he : PE X e (EV X C W false a')) (hs : swapsWithSole [.Subscript o ix spos] e pos.line X.env = pure false) (hw : swappedStores [.Subscript o ix spos] e X.env = pure none)
    (h1 : (assignEach [.Subscript o ix spos] X.env).map (·.2) = [assign (.Subscript o ix spos) X.env])
    (hq : ∀ v, assign (.Subscript o ix spos) X.env v = (do
      let ov ← holding [v] (eval o X.env)
      let iv ← holding [v, ov] (eval ix X.env)
      standAt spos
      holding [v, ov, iv] (setItem ov iv v)
      release [v, ov, iv] [])) : PS X (.Assign [.Subscript o ix spos] e pos) (EX X C W (.setI i b' a')) := by
  refine PS.imp (ps_asg he (pg_sub ho hi set_list hq) hs hw h1) fun D σ H ⟨Z, F, env, r, h⟩ => ?_
  simp only [exec] at h
  show EV X C W false a' σ H fun v H1 => ∃ w, σ[i]? = some (some w) ∧ EV X C W false b' σ H1 fun y H2 => rSetL w y v H2 fun H3 => D.nx σ H3
  refine ⟨Z, F, env, r, ?_⟩
  cases h0 : ev C a' env with
  | ok x e1 =>
    rw [h0] at h
    simp only at h
    intro F1 H1 v s1 r1 q1
    rw [Val.ff] at q1
    split at h
    · rename_i hi
      obtain ⟨a, ea, _⟩ := own_ty r1 hi
      refine ⟨.ref a, ea, Z, F1, e1, r1, ?_⟩
      cases h2 : ev C b' e1 with
      | ok y e2 =>
        rw [h2] at h
        simp only at h
        intro F2 H2 u s2 r2 q2
        rw [Val.ff] at q2
        split at h
        · rename_i xs j hx
          split at h
          · rename_i y0 hy
            obtain ⟨a', vs, e3, e4, z, rr⟩ := own_list r2 hx
            rw [ea] at e3
            cases e3
            cases q2
            refine ⟨a, vs, j, _, rfl, rfl, e4, by rw [rr.length]; exact ixN_at hy, ?_⟩
            exact h F2 σ _ (s1.trans s2) (own_put r2 hx ea (by rw [List.length_set]; exact z) (Reps.set (q1.mono s2) _ rr))
          · exact h.elim
        · exact h.elim
      | exc c e2 => rw [h2] at h; exact kXs.at (kXs.mono (F := F) h s1)
      | stuck => rw [h2] at h; exact h.elim
    · exact h.elim
  | exc c e1 => rw [h0] at h; exact kXs.at h
  | stuck => rw [h0] at h; exact h.elim
/-! op= -/
theorem iadd_many (l : Addr) (items : Array Value) (n : Nat) (b : Addr) (T : String) (hT : T = "list" ∨ T = "tuple") (items2 : Array Value) (n2 : Nat) (dd : Option Addr) (sl : Array (Option Value)) (hs0 : ¬(!items.isEmpty && Builtin.List.listTooLong (items.size + items2.size)) = true) (hs1 : items.size ≤ sizeLine) (hs2 : (items ++ items2).size ≤ sizeLine + 1) :
    Meets (Builtin.«list.__iadd__» ⟨[.ref l, .ref b], []⟩) (fun _ R s => s.heap.get? l = some { cls := .type "list", dict := none, data := .seq items n, slots := #[] } ∧ s.heap.get? b = some { cls := .type T, dict := dd, data := .seq items2 n2, slots := sl } ∧
      R (.ok (.ret (Value.ref l))) { s with heap := s.heap.update l (Obj.mapSeq fun x => x ++ items2), toks := s.toks }) := by
  rcases hT with rfl | rfl
  · refine .of_wp fun prog w A R s h => ?_
    obtain ⟨hp, g, d, tk, os⟩ := s
    obtain ⟨hl, hb, h⟩ := h
    have q1 := PySem.AutoSeq1.idx_int
    have q2 := PySem.AutoSeq1.sub_tuple_tuple
    have q3 := PySem.AutoSeq1.sub_list_list
    have q4 := PySem.AutoSeq1.sub_tuple_list
    have q5 := PySem.AutoSeq1.sub_list_tuple
    wp_walk using (wpAny_updateSeq hl rfl (hz := hs1) (_hz' := hs2)), PySem.AutoSeq1.wpAny_loadPart' hl, PySem.AutoSeq1.wpAny_loadPart' hb
    exact ⟨_, rfl, h⟩
  · refine .of_wp fun prog w A R s h => ?_
    obtain ⟨hp, g, d, tk, os⟩ := s
    obtain ⟨hl, hb, h⟩ := h
    have q1 := PySem.AutoSeq1.idx_int
    have q2 := PySem.AutoSeq1.sub_tuple_tuple
    have q3 := PySem.AutoSeq1.sub_list_list
    have q4 := PySem.AutoSeq1.sub_tuple_list
    have q5 := PySem.AutoSeq1.sub_list_tuple
    wp_walk using (wpAny_updateSeq hl rfl (hz := hs1) (_hz' := hs2)), PySem.AutoSeq1.wpAny_loadPart' hl, PySem.AutoSeq1.wpAny_loadPart' hb
    exact ⟨_, rfl, h⟩
theorem noOp1 {M : Model} {A : Around} {E : Value → Shared → Prop} {s : Shared} {a b : Value} {T U nm : String} {Q : Option Value → Shared → Prop} (ha : s.TypeIs a T) (hb : s.TypeIs b U) (f1 : fillsNumberSlot (.type T) nm = pure false) (f2 : fillsNumberSlot (.type U) nm = pure false) (h : Q none s) :
    wpAny M A (binaryOp1 nm a b) Q E s := by
  simp only [binaryOp1]
  refine wpAny_bind (wpAny_typeOf ha (wpAny_bind (wpAny_typeOf hb (wpAny_bind (wpAny_of_eq f1 ?_)))))
  by_cases hTU : (Value.type T == Value.type U) = true
  · simp only [hTU, if_true, pure_bind, Bool.false_and, Bool.false_eq_true, if_false]
    exact wpAny_pure h
  · simp only [hTU, Bool.false_eq_true, if_false]
    refine wpAny_bind (wpAny_of_eq f2 ?_)
    simp only [pure_bind, Bool.false_and, Bool.false_eq_true, if_false]
    exact wpAny_pure h
theorem iadd_way {M : Model} {A : Around} {E : Value → Shared → Prop} {s : Shared} {a b : Value} {U : String} {Q : Value → Shared → Prop} (ha : s.TypeIs a "list") (hb : s.TypeIs b U) (f2 : fillsNumberSlot (.type U) "add" = pure false) (hc : wpAny M A (call (.builtin "list.__iadd__") [a, b]) Q E s) : wpAny M A (inplaceOp .Add a b) Q E s := by
  have look : typeLookup (.type "list") (dunderI "add") = pure (some (.builtin "list.__iadd__")) := PySem.F.slot_list_iadd.lookup
  have isq : isSeqSlot (some (.builtin "list.__iadd__")) = true := by decide +kernel
  have fill : fillsInplaceSlot (.type "list") "add" (Operator.Add == .Add) = pure false := by
    unfold fillsInplaceSlot
    show (typeLookup (.type "list") (dunderI "add") >>= fun fi => pure (fi.isSome && !isSeqSlot fi)) = pure false
    rw [look]
    show (pure (true && !isSeqSlot (some (.builtin "list.__iadd__"))) : Sem Bool) = pure false
    rw [isq] <;> rfl
  unfold inplaceOp
  refine wpAny_holding (wpAny_bind (wpAny_typeOf ha (wpAny_bind (wpAny_of_eq fill ?_))))
  show wpAny M A (if false = true then _ else _) Q E s
  rw [if_neg Bool.false_ne_true]
  exact wpAny_bind (noOp1 (nm := "add") ha hb noFill_list_add f2 (wpAny_bind (wpAny_of_eq (PySem.seqSlot_of look isq) (wpAny_bind (wpAny_rule hc)))))
def rExt (K : PySem.W.Frag) : R2 := fun x y H Q => ∃ l b xs zs, x = .ref l ∧ y = .ref b ∧ H l = some (.lst xs) ∧ (∃ k, SqB k K H b zs) ∧ xs.length + zs.length ≤ sizeLine ∧ Q (.ref l) (upd H l (.lst (xs ++ zs)))
theorem iop_many : OpR X (inplaceOp .Add) (rExt X.K) := by
  intro pins s σ H x y v u Q I rx ry h
  obtain ⟨l, b, xs, zs, rfl, rfl, hH, ⟨k, hB⟩, hz, q⟩ := h
  cases rx
  cases ry
  obtain ⟨z, its, n, r, hl, e⟩ := I.lstM hH
  obtain ⟨its2, r2, src⟩ := hB.read I
  obtain ⟨T, o2, n2, hT, f2, e2, c2, d2⟩ : ∃ (T : String) (o2 : Obj) (n2 : Nat), (T = "list" ∨ T = "tuple") ∧ fillsNumberSlot (.type T) "add" = pure false ∧ s.heap.get? b = some o2 ∧ o2.cls = .type T ∧ o2.data = .seq its2.toArray n2 := by
    cases k with
    | true => obtain ⟨o, e, c, n, d⟩ := src; exact ⟨"tuple", o, n, .inr rfl, noFill_tuple_add, e, c, d⟩
    | false => obtain ⟨o, e, c, n, d⟩ := src; exact ⟨"list", o, n, .inl rfl, noFill_list_add, e, c, d⟩
  obtain ⟨cls, dd, data, sl⟩ := o2
  simp only at c2 d2
  subst c2 d2
  have l2 := r2.length
  have hsz : its.toArray.size + its2.toArray.size ≤ sizeLine := by rw [List.size_toArray, List.size_toArray]; omega
  have hlong : ¬ (!its.toArray.isEmpty && Builtin.List.listTooLong (its.toArray.size + its2.toArray.size)) = true := by
    rw [notLongL hsz, Bool.and_false]
    exact Bool.false_ne_true
  refine iadd_way ⟨_, e, rfl⟩ ⟨_, e2, rfl⟩ f2 (call_meets PySem.F.slot_list_iadd ⟨_, e, rfl⟩ PySem.F.entry_list_iadd (PySem.F.args_list_iadd_2 _ _)
    (iadd_many l its.toArray n b T hT its2.toArray n2 dd sl hlong (by rw [List.size_toArray]; omega) (by rw [Array.size_append]; omega)) ⟨e, e2, ?_⟩)
  refine ⟨.ref l, _, I.lset (its' := its ++ its2) (t' := s.toks) hH e (by simp) (r.append r2) ?_, rfl, q⟩
  rw [List.length_append]
  omega
/-- what stands in the place and what comes to it -/
def ipA (K : PySem.W.Frag) (op : Operator) : TIp := fun x y H Q => (∃ i j z, x = .int i ∧ y = .int j ∧ augI op i (.int j) = some (.int z) ∧ Q (.int z) H) ∨ (op = .Add ∧ rExt K x y H Q)
theorem ip_any (op : Operator) : PIp X op (ipA X.K op) := by
  intro pins s σ H x y v u Q I r1 r2 h
  rcases h with ⟨i, j, z, rfl, rfl, hz, q⟩ | ⟨rfl, h⟩
  · obtain ⟨t, rfl⟩ := r1
    obtain ⟨t', rfl⟩ := r2
    cases op with
    | Add =>
      cases hz
      exact iadd_int ⟨.int _, H, I.tok _, ⟨_, rfl⟩, q⟩
    | Sub =>
      cases hz
      exact isub_int ⟨.int _, H, I.tok _, ⟨_, rfl⟩, q⟩
    | Mult =>
      simp only [augI] at hz
      split at hz
      · rename_i hm
        cases hz
        exact imul_int ⟨.int _, H, I.tok _, ⟨_, rfl⟩, q⟩ (mulOk_ok hm)
      · cases hz
    | _ => cases hz
  · exact iop_many pins s σ H x y v u Q I r1 r2 h
theorem augI_int {op : Operator} {i : Int} {y z : D} (h : augI op i y = some z) : ∃ j w, y = .int j ∧ z = .int w := by
  unfold augI at h
  split at h
  · cases h; exact ⟨_, _, rfl, rfl⟩
  · cases h; exact ⟨_, _, rfl, rfl⟩
  · split at h
    · cases h; exact ⟨_, _, rfl, rfl⟩
    · cases h
  · cases h
theorem augL_ok {i : Nat} {op : Operator} {y : D} {e1 : Env} {k : Fl → Env → Prop} {w : String → Env → Prop} (h : Okr (augL i op y e1) k w) :
    ∃ xs ys, op = .Add ∧ ownD (slot e1 i) = some (.list xs) ∧ items? y = some ys ∧ isLong (xs ++ ys) = true ∧ k .next (e1.set i (reOwn (slot e1 i) (.list (xs ++ ys)))) := by
  unfold augL at h
  split at h
  · rename_i xs ys h1 h2
    split at h
    · rename_i hz
      exact ⟨xs, ys, rfl, h1, h2, hz, h⟩
    · exact h.elim
  · exact h.elim
theorem ps_au {i : Nat} {x : Str} {pos' : Pos} {op : Operator} (h : ∀ te ti, PE X e te → PIp X op ti → PS X (.AugAssign (.Name x pos') op e pos) (tAug i te ti)) (he : PE X e (EV X C W false a')) : PS X (.AugAssign (.Name x pos') op e pos) (EX X C W (.aug i op a')) := by
  refine PS.imp (h _ _ he (ip_any op)) fun D σ H ⟨Z, F, env, r, h⟩ => ?_
  simp only [exec] at h
  split at h
  · rename_i x hs
    obtain ⟨v, e1, q⟩ := r.vl i _ (slot_get hs fun z => nomatch z)
    cases q
    refine ⟨_, e1, ?_⟩
    refine one_s (fr := false) r (fun y e1 => match augI op x y with | some z => .ok .next (e1.set i (.val z)) | none => .stuck) h fun y e2 F1 H1 u h r1 q1 => ?_
    rw [Val.ff] at q1
    cases hz : augI op x y with
    | none => rw [hz] at h; exact h.elim
    | some z =>
      rw [hz] at h
      obtain ⟨j, w, rfl, rfl⟩ := augI_int hz
      cases q1
      exact .inl ⟨x, j, w, rfl, rfl, hz, h F1 _ H1 (Same.refl _) (r1.setV' (.int _))⟩
  · rename_i xs0 hs
    obtain ⟨a, vs0, e1, _⟩ := own_list r (i := i) (by rw [hs]; rfl)
    refine ⟨_, e1, ?_⟩
    refine one_s (fr := false) r (augL i op) h fun y e2 F1 H1 u h r1 q1 => ?_
    rw [Val.ff] at q1
    obtain ⟨xs, ys, rfl, hx, hy, hz, h⟩ := augL_ok h
    have hz : (xs ++ ys).length ≤ big := of_decide_eq_true hz
    obtain ⟨a', vs, e3, e4, z, rr⟩ := own_list r1 hx
    rw [e1] at e3
    cases e3
    obtain ⟨k, b, ws, rfl, sq, rw2⟩ := q1.seq hy
    have bl := big_le
    have l1 := rr.length
    have l2 := rw2.length
    rw [List.length_append] at hz
    have rn := own_put r1 hx e1 (ys := xs ++ ys) (ws := vs ++ ws) (by rw [List.length_append]; omega) (rr.append rw2)
    refine .inr ⟨rfl, a, b, vs, ws, rfl, rfl, e4, ⟨k, sq.sqB r1.fh⟩, by omega, ?_⟩
    have es : σ.set i (some (V.ref a)) = σ := by
      refine List.ext_getElem? fun j => ?_
      by_cases hj : j = i
      · subst hj
        rw [e1, List.getElem?_set_self (List.getElem?_eq_some_iff.mp e1).1]
      · rw [List.getElem?_set_ne (Ne.symm hj)]
    show D.nx (σ.set i (some (V.ref a))) _
    rw [es]
    exact h F1 _ _ (Same.refl _) rn
  · exact h.elim
end
end BT
namespace BT
open PySem PySem.Spec PyProof.Rows L2
theorem mem_dd {k : Int} : ∀ {ns : List Int}, k ∈ dd ns ↔ k ∈ ns
  | [] => Iff.rfl
  | x :: xs => by
    unfold dd
    split
    · rename_i h
      rw [mem_dd (ns := xs), List.mem_cons]
      exact ⟨.inr, fun q => q.elim (fun e => e ▸ h) id⟩
    · rw [List.mem_cons, List.mem_cons, mem_dd (ns := xs)]
theorem dd_nodup : ∀ {ns : List Int}, (dd ns).Nodup
  | [] => List.nodup_nil
  | x :: xs => by
    unfold dd
    split
    · exact dd_nodup
    · rename_i h
      exact List.nodup_cons.mpr ⟨fun q => h (mem_dd.mp q), dd_nodup⟩
theorem perm_of {a b : List Int} (h1 : a.Nodup) (h2 : b.Nodup) (h : ∀ k, k ∈ a ↔ k ∈ b) : a.Perm b := (List.perm_ext_iff_of_nodup h1 h2).mpr h
section
variable {X : Cx} {C : Calls} {W : WX} {a : Expr} {a' : IE} {pos p p2 q : Pos}
theorem pe_lenset {fr : Bool} (hc : X.calm = true) (hg : Gl X "len") (hm : X.mg "len" = none) (hg2 : Gl X "set") (hm2 : X.mg "set" = none) (ha : PE X a (EO X C W a')) (na : starEach [a] X.env = (false, eval a X.env) :: starEach [] X.env) :
    PE X (.Call (.Name "len" p) [.Call (.Name "set" p2) [a] [] q] [] pos) (EV X C W fr (.pr .lenset a')) := by
  have t : PE X (.Call (.Name "len" p) [.Call (.Name "set" p2) [a] [] q] [] pos) (fun σ H Q => EO X C W a' σ H fun x H1 => ∃ F dx D, Same F H1 ∧ RepT X.K F H1 dx x ∧ dpr .lenset dx = some D ∧ OutV X.K F H1 D Q) := by
    refine ⟨fun pins s σ H Q I h => ?_⟩
    refine Call_ (ld_blt I hg hm boot_len (PyProof.Rows.callWith_builtin1 (PyProof.Rows.args_cons (Call_ (ld_blt I hg2 hm2 boot_set (PyProof.Rows.callWith_type1 (PyProof.Rows.args_cons (thn (ha.run pins s σ H _ I h) fun v s1 ⟨x, H1, I1, r1, q1⟩ => PyProof.Rows.args_nil ?_) na) na rfl))) rfl) rfl rfl))
    obtain ⟨F, dx, D, sf, hx, e, o⟩ := q1
    cases dx with
    | tuple ds =>
      simp only [dpr] at e
      split at e
      · rename_i hz
        have hz := of_decide_eq_true hz
        obtain ⟨ns, e1, rfl⟩ := map_none e
        obtain ⟨ad, vs, rfl, hT, rr⟩ := hx.tuple
        rw [ints?_eq e1] at rr
        rw [rr.ofInts] at hT
        cases r1
        obtain ⟨its, r, pl, hzz⟩ := I1.tuple (hT.mono sf).sq
        have hl : ns.length ≤ 4000 := by rw [ints?_eq e1, List.length_map] at hz; exact hz
        refine call_set_tupI ns (I1.ok.hd hc) pl (by simpa using RZ.intsAre_vals r) (by unfold scanBound; omega) fun h' tk c hS hcn hk => PyProof.Rows.args_nil ?_
        obtain ⟨ob, es, ep, t, ho, hex, hd, _, nd, mem, _, hf, hn, _⟩ := hS
        have hcount : es.size = (dd ns).length := by
          have pm := perm_of nd (dd_nodup (ns := ns)) fun k => by rw [← mem k, decide_eq_true_eq, mem_dd]
          have := pm.length_eq
          rwa [List.length_map, Array.length_toList] at this
        have I2 : Inv X pins σ H1 { s1 with heap := h', toks := tk } := I1.kept fun b o e => hk b o e
        exact call_len_set ho hex hd hf (by rw [hn]; omega) ⟨.int ((dd ns).length : Nat), H1, I2.tok _, ⟨_, by rw [hcount]⟩, out_int o⟩
      · cases e
    | _ => cases e
  refine PE.imp t fun σ H Q ⟨Z, F, env, r, h⟩ => one_o (k := kP X.K fr Q Z F σ) r (fun r => match r with | .ok x e1 => ofO (dpr .lenset x) e1 | r => r) (fun x e1 => ofO (dpr .lenset x) e1) (fun _ _ => rfl) (fun _ _ => rfl) rfl (by simp only [ev] at h; exact h) fun x e1 F1 H1 v h s1 r1 q1 => ?_
  obtain ⟨d, e3, h⟩ := okr_of h
  exact ⟨F1, x, d, r1.fh, q1, e3, out_of r1 s1 h⟩
theorem pe_sortset {fr : Bool} (hc : X.calm = true) (hg : Gl X "sorted") (hm : X.mg "sorted" = none) (hg2 : Gl X "set") (hm2 : X.mg "set" = none) (ha : PE X a (EO X C W a')) (na : starEach [a] X.env = (false, eval a X.env) :: starEach [] X.env) :
    PE X (.Call (.Name "sorted" p) [.Call (.Name "set" p2) [a] [] q] [] pos) (EV X C W fr (.pr .sortset a')) := by
  have t : PE X (.Call (.Name "sorted" p) [.Call (.Name "set" p2) [a] [] q] [] pos) (fun σ H Q => EO X C W a' σ H fun x H1 => ∃ F dx D, Same F H1 ∧ RepT X.K F H1 dx x ∧ dpr .sortset dx = some D ∧ OutV X.K F H1 D Q) := by
    refine ⟨fun pins s σ H Q I h => ?_⟩
    refine Call_ (ld_blt I hg hm boot_sorted (PyProof.Rows.callWith_builtin1 (PyProof.Rows.args_cons (Call_ (ld_blt I hg2 hm2 boot_set (PyProof.Rows.callWith_type1 (PyProof.Rows.args_cons (thn (ha.run pins s σ H _ I h) fun v s1 ⟨x, H1, I1, r1, q1⟩ => PyProof.Rows.args_nil ?_) na) na rfl))) rfl) rfl rfl))
    obtain ⟨F, dx, D, sf, hx, e, o⟩ := q1
    cases dx with
    | tuple ds =>
      simp only [dpr] at e
      split at e
      · rename_i hz
        have hz := of_decide_eq_true hz
        obtain ⟨ns, e1, rfl⟩ := map_none e
        obtain ⟨ad, vs, rfl, hT, rr⟩ := hx.tuple
        rw [ints?_eq e1] at rr
        rw [rr.ofInts] at hT
        cases r1
        obtain ⟨its, r, pl, hzz⟩ := I1.tuple (hT.mono sf).sq
        have hl : ns.length ≤ 60 := by rw [ints?_eq e1, List.length_map] at hz; exact hz
        refine call_set_tupI ns (I1.ok.hd hc) pl (by simpa using RZ.intsAre_vals r) (by unfold scanBound; omega) fun h' tk c hS hcn hk => PyProof.Rows.args_nil ?_
        have I2 : Inv X pins σ H1 { s1 with heap := h', toks := tk } := I1.kept fun b o e => hk b o e
        refine sorted_set hS (I2.ok.hd hc) (by omega) fun s' pp out cc ms k g os hp hgt hi hs hmem hlen => ?_
        have em : ms = sortI (dd ns) := by
          refine sortI_of (perm_of (hs.imp fun h => Int.ne_of_lt h) dd_nodup fun k => by rw [hmem k, decide_eq_true_eq, mem_dd]) (hs.imp fun h => Int.le_of_lt h)
        have hll : (ms.map V.int).length ≤ sizeLine := by rw [List.length_map, hlen, sizeLine_eq]; omega
        have hn : H1 pp = none := I2.hok.fresh hp
        have J : Inv X pins σ (upd H1 pp (.lst (ms.map V.int))) { ({ s1 with heap := h', toks := tk } : Shared) with heap := s'.heap, gens := s'.gens, drawn := s'.drawn, toks := s'.toks } :=
          I2.call (ch := []) (Un.laid k hp hn) (I2.hok.laid k hp ⟨hll, out.toList, cc, vals_of_ints hi, hgt⟩) (by rw [g]; exact I2.bare) (fun _ z => nomatch z)
        have e : s' = { ({ s1 with heap := h', toks := tk } : Shared) with heap := s'.heap, gens := s'.gens, drawn := s'.drawn, toks := s'.toks } := by
          cases s'
          cases os
          rfl
        rw [e]
        exact ⟨.ref pp, _, J, rfl, o.2.1 pp _ _ (by rw [em]) hn hll Reps.ints⟩
      · cases e
    | _ => cases e
  refine PE.imp t fun σ H Q ⟨Z, F, env, r, h⟩ => one_o (k := kP X.K fr Q Z F σ) r (fun r => match r with | .ok x e1 => ofO (dpr .sortset x) e1 | r => r) (fun x e1 => ofO (dpr .sortset x) e1) (fun _ _ => rfl) (fun _ _ => rfl) rfl (by simp only [ev] at h; exact h) fun x e1 F1 H1 v h s1 r1 q1 => ?_
  obtain ⟨d, e3, h⟩ := okr_of h
  exact ⟨F1, x, d, r1.fh, q1, e3, out_of r1 s1 h⟩
end
end BT
namespace BT
open PySem PySem.Spec PyProof.Rows L2
/-! ## from the text to the small language -/
structure FI where
  x : Str
  key : String
  inout : Bool
  fresh : Bool
  n : Nat
structure CC where
  N : List Str
  sc : Scope
  fn : Str → Bool
  fs : List FI
  ks : List (Str × D)
abbrev Rec := CC → Expr → Option IE
def okNm (x : Str) : Bool := !(x == "__debug__") && !(x == "__classdict__")
def visB (c : CC) (x : Str) : Bool := match c.sc.names.lookup x with
  | some .local => true
  | some .cell => true
  | some .free => true
  | _ => false
def idx (c : CC) (x : Str) : Option Nat := if visB c x && okNm x && decide (c.N[c.N.idxOf x]? = some x) then some (c.N.idxOf x) else none
def gl (c : CC) (x : Str) : Bool := decide (c.sc.names.lookup x = some .globalImplicit) && okNm x
def stB (c : CC) (x : Str) : Bool := decide (c.sc.names.lookup x = some .local) || (decide (c.sc.names.lookup x = some .cell) && c.fn x)
def fi (c : CC) (x : Str) : Option FI := c.fs.find? fun q => decide (q.x = x)
def nst : Expr → Bool
  | .Starred .. => false
  | _ => true
def tOk : Expr → Bool
  | .IfExp .. => false
  | _ => true
def cK : Const → Option D
  | .none => some .none
  | .bool b => some (.bool b)
  | .int i => some (.int i)
  | .str s => some (.str s)
  | _ => none
/-- an operand: a place's own object is looked at, not taken -/
def cO (rec : Rec) (c : CC) (e : Expr) : Option IE := match e with
  | .Name x _ => match idx c x with
    | some i => some (.b i)
    | none => rec c e
  | _ => rec c e
def cEs (rec : Rec) (c : CC) : List Expr → Option IEs
  | [] => some .nil
  | e :: es => match rec c e, cEs rec c es with
    | some a, some as => some (.cons a as)
    | _, _ => none
def cName (c : CC) (x : Str) : Option IE := match idx c x with
  | some i => some (.v i)
  | none => if gl c x then (c.ks.lookup x).map .k else none
def cBO (rec : Rec) (c : CC) (op : BoolOp) : List Expr → Option IE
  | [] => none
  | [a] => if tOk a then rec c a else none
  | a :: b :: r => match tOk a, rec c a, cBO rec c op (b :: r) with
    | true, some a', some r' => some (match op with | .And => .and a' r' | .Or => .or a' r')
    | _, _, _ => none
def isNoneE : Expr → Bool
  | .Constant .none _ _ => true
  | _ => false
def cCmp1 (rec : Rec) (c : CC) (a : Expr) (op : CmpOp) (b : Expr) : Option IE :=
  if isNoneE b then (match op with
    | .Is => (cO rec c a).map .isN
    | .IsNot => (cO rec c a).map .notN
    | _ => none)
  else match cO rec c a, cO rec c b with
    | some a', some b' => some (.cmp op a' b')
    | _, _ => none
def prB (x : Str) : Option (Pr × String) :=
  if x = "len" then some (.len, "len") else if x = "abs" then some (.abs, "abs") else if x = "sum" then some (.sum, "sum") else if x = "all" then some (.all, "all") else if x = "any" then some (.any, "any")
  else if x = "min" then some (.min, "min") else if x = "max" then some (.max, "max") else if x = "sorted" then some (.sorted, "sorted") else none
def prT (x : Str) : Option (Pr × String) :=
  if x = "list" then some (.list, "list") else if x = "tuple" then some (.tuple, "tuple") else if x = "int" then some (.int, "int") else none
def tyOf (x : Str) : Option Ty :=
  if x = "bool" then some .bool else if x = "int" then some .int else if x = "str" then some .str else if x = "list" then some .list else if x = "tuple" then some .tuple else none
def tyE1 (c : CC) : Expr → Option Ty
  | .Name x _ => if gl c x then tyOf x else none
  | _ => none
def tyEs (c : CC) : List Expr → Option (List Ty)
  | [] => some []
  | e :: es => match tyE1 c e, tyEs c es with
    | some t, some ts => some (t :: ts)
    | _, _ => none
def tyE (c : CC) (e : Expr) : Option (List Ty) := match e with
  | .Tuple es _ _ => tyEs c es
  | _ => (tyE1 c e).map fun t => [t]
/-- a call of one argument of a built-in -/
def cB1 (rec : Rec) (c : CC) (f : Str) (a : Expr) : Option IE :=
  match prB f with
  | some (p, _) => (match a with
    | .Call (.Name g _) [b] [] _ => if decide (g = "set") && gl c g then (match p, cO rec c b with
        | .len, some b' => some (.pr .lenset b')
        | .sorted, some b' => some (.pr .sortset b')
        | _, _ => none) else (cO rec c a).map (.pr p)
    | _ => (cO rec c a).map (.pr p))
  | none => match prT f with
    | some (p, _) => (match a with
      | .Call (.Name g _) as [] _ => if decide (g = "range") && gl c g then (match p, as with
          | .list, [n] => (rec c n).map .lrg
          | .tuple, [n] => (rec c n).map .trg
          | .list, [m, n] => match rec c m, rec c n with
            | some m', some n' => some (.lrg2 m' n')
            | _, _ => none
          | _, _ => none) else (cO rec c a).map (.pr p)
      | _ => (cO rec c a).map (.pr p))
    | none => none
def cB2 (rec : Rec) (c : CC) (f : Str) (a b : Expr) : Option IE :=
  if f = "isinstance" then (match cO rec c a, tyE c b with
    | some a', some ts => if decide (ts.length ≤ 100) then some (.isi a' ts) else none
    | _, _ => none)
  else if f = "min" then (match rec c a, rec c b with
    | some a', some b' => some (.min2 a' b')
    | _, _ => none)
  else if f = "max" then (match rec c a, rec c b with
    | some a', some b' => some (.max2 a' b')
    | _, _ => none)
  else none
def cCall (rec : Rec) (c : CC) (f : Str) (as : List Expr) : Option IE :=
  if gl c f then (match fi c f with
    | some q => (match as with
      | [] => none
      | a :: rest => if q.inout then (match a with
          | .Name x _ => match idx c x, cEs rec c rest with
            | some i, some as' => if decide (lenEs as' = q.n) then some (.callS q.key i as') else none
            | _, _ => none
          | _ => none)
        else match cEs rec c as with
          | some as' => if decide (lenEs as' = q.n) then some (if q.fresh then .callF q.key as' else .call q.key as') else none
          | none => none)
    | none => match as with
      | [a] => cB1 rec c f a
      | [a, b] => cB2 rec c f a b
      | _ => none)
  else none
def cMeth (rec : Rec) (c : CC) (o : Expr) (nm : Str) (as : List Expr) (apos cpos : Pos) : Option IE :=
  if apos.endLine == cpos.line then (match o with
    | .Name x _ => if nm = "pop" then (match idx c x, as with
        | some i, [] => some (.pop i)
        | some i, [a] => (rec c a).map (.popI i)
        | _, _ => none)
      else if nm = "index" then (match cName c x, as with
        | some o', [a] => (rec c a).map (.index o')
        | _, _ => none)
      else none
    | _ => none) else none
def cSub (rec : Rec) (c : CC) (a s : Expr) : Option IE :=
  match cO rec c a with
  | none => none
  | some a' => match s with
    | .Slice none none (some (.UnaryOp .USub (.Constant (.int 1) _ _) _)) _ => some (.rev a')
    | .Slice none (some hi) none _ => (cO rec c hi).map (.slu a')
    | .Slice (some lo) none none _ => (cO rec c lo).map (.sll a')
    | .Slice (some lo) (some hi) none _ => match rec c lo, rec c hi with
      | some l, some h => some (.slb a' l h)
      | _, _ => none
    | i => (cO rec c i).map (.ix a')
def cT : Nat → CC → Expr → Option Tg
  | 0, _, _ => none
  | n + 1, c, e => match e with
    | .Name x _ => if stB c x then (idx c x).map .v else none
    | .Tuple [a, b] _ _ => match cT n c a, cT n c b with
      | some a', some b' => some (.p2 a' b')
      | _, _ => none
    | .Tuple [a, b, d] _ _ => match cT n c a, cT n c b, cT n c d with
      | some a', some b', some d' => some (.p3 a' b' d')
      | _, _, _ => none
    | _ => none
/-- what is walked; whether it gives pairs -/
def cIt (rec : Rec) (c : CC) (e : Expr) : Option (It × Bool) := match e with
  | .Call (.Name f _) as [] _ => if gl c f && decide (f = "range") then (match as with
      | [a] => (rec c a).map fun a' => (.r1 a', false)
      | [a, b] => match rec c a, rec c b with
        | some a', some b' => some (.r2 a' b', false)
        | _, _ => none
      | [a, b, d] => match rec c a, rec c b, rec c d with
        | some a', some b', some d' => some (.r3 a' b' d', false)
        | _, _, _ => none
      | _ => none)
    else if gl c f && decide (f = "enumerate") then (match as with
      | [a] => (rec c a).map fun a' => (.enum a', true)
      | _ => none)
    else if gl c f && decide (f = "zip") then (match as with
      | [a, b] => match rec c a, rec c b with
        | some a', some b' => some (.zip a' b', true)
        | _, _ => none
      | _ => none)
    else (rec c e).map fun a' => (.e a', false)
  | _ => (rec c e).map fun a' => (.e a', false)
def ownOf (N : List Str) (scope : Scope) : List (Str × Nat) := scope.names.filterMap fun y => if (decide (y.2 = .local) || decide (y.2 = .cell)) && decide (y.1 ∈ N) then some (y.1, N.idxOf y.1) else none
def blkCC (c : CC) (scope : Scope) : CC := { c with sc := relS scope c.sc, fn := fun x => scope.names.lookup x == some .cell }
def cLc (rec : Rec) (c : CC) (elt tg iter : Expr) (ifs : List Expr) (scope : Scope) : Option IE :=
  if blkC c.N c.sc scope (ownOf c.N scope) then (match cIt rec c iter, cT 5 (blkCC c scope) tg, rec (blkCC c scope) elt with
    | some (it, pr), some t, some e' => if (!pr || isTp t) && tgIn t ((ownOf c.N scope).map (·.2)) then (match ifs with
        | [] => some (.lc ((ownOf c.N scope).map (·.2)) e' t it)
        | [d] => if tOk d then (rec (blkCC c scope) d).map fun d' => .lcf ((ownOf c.N scope).map (·.2)) e' t it d' else none
        | _ => none) else none
    | _, _, _ => none) else none
def stepE (rec : Rec) (c : CC) (e : Expr) : Option IE := match e with
  | .Constant k _ _ => (cK k).map .k
  | .Name x _ => cName c x
  | .BinOp a op b _ => match cO rec c a, cO rec c b with
    | some a', some b' => some (.bin op a' b')
    | _, _ => none
  | .UnaryOp .USub a _ => (rec c a).map .neg
  | .UnaryOp .Not a _ => if tOk a then (rec c a).map .not else none
  | .BoolOp op (a :: b :: r) _ => cBO rec c op (a :: b :: r)
  | .Compare a [op] [b] _ => cCmp1 rec c a op b
  | .Compare a [op, op'] [b, d] _ => match rec c a, rec c b, rec c d with
    | some a', some b', some d' => some (.cmp2 op op' a' b' d')
    | _, _, _ => none
  | .IfExp t a b _ => if tOk t then (match rec c t, rec c a, rec c b with
    | some t', some a', some b' => some (.ite t' a' b')
    | _, _, _ => none) else none
  | .Call (.Name f _) as [] _ => cCall rec c f as
  | .Call (.Attribute o nm apos) as [] cpos => cMeth rec c o nm as apos cpos
  | .Subscript a s _ => cSub rec c a s
  | .List es _ => match cEs rec c es with
    | some as => if decide (lenEs as ≤ 1000) then some (.lst as) else none
    | none => none
  | .Tuple es _ _ => match cEs rec c es with
    | some as => if decide (lenEs as ≤ 1000) then some (.tup as) else none
    | none => none
  | .ListComp elt [⟨tg, iter, ifs, 0⟩] scope _ => cLc rec c elt tg iter ifs scope
  | _ => none
def cE : Nat → Rec
  | 0 => fun _ _ => none
  | n + 1 => stepE (cE n)

/-! ### statements -/
def starB : Expr → Bool
  | .Starred .. => true
  | _ => false
def swNames (sc : Scope) (ts : List Expr) : List Str := ts.filterMap fun
  | .Name id pos => if sc.names.lookup id == some .local && pos.line == (ts.head?.map (·.pos.line)).getD 0 then some id else none
  | _ => none
/-- the swapped stores of several targets (none: the text does not say) -/
def swOf (sc : Scope) (ts vs : List Expr) : Option (Option (List Str)) :=
  if !(ts.length == 2 || ts.length == 3) || vs.length != ts.length then some none
  else if vs.any starB then some none
  else if (swNames sc ts).length != ts.length || (swNames sc ts).eraseDups.length != (swNames sc ts).length then some none
  else if vs.all (foldedForSure 8) then some none
  else if vs.all (constantsAlone 8) then none
  else some (some (swNames sc ts))
def isComp : Expr → Bool
  | .ListComp .. => true
  | .SetComp .. => true
  | .DictComp .. => true
  | _ => false
def isTupE : Expr → Bool
  | .Tuple .. => true
  | _ => false
def nmIx (c : CC) (e : Expr) : Option (Str × Nat) := match e with
  | .Name x _ => if stB c x then (idx c x).map fun i => (x, i) else none
  | _ => none
abbrev RecS := CC → List Stmt → Option ISs
def cAsg (n : Nat) (c : CC) (tg v : Expr) : Option IS := match tg with
  | .Name x _ => match nmIx c tg, cE n c v with
    | some (_, i), some v' => some (.asg i v')
    | _, _ => none
  | .Subscript (.Name x _) ix _ => if isComp v then none else (match idx c x, cE n c ix, cE n c v with
    | some i, some x', some v' => some (.setI i x' v')
    | _, _, _ => none)
  | .Tuple ts _ _ => (match v with
    | .Tuple vs _ _ => match ts, vs with
      | [t1, t2], [v1, v2] => match nmIx c t1, nmIx c t2, cE n c v1, cE n c v2, swOf c.sc ts vs with
        | some (_, i), some (_, j), some a, some b, some _ => if decide (i ≠ j) then some (.asg2 i j a b) else none
        | _, _, _, _, _ => none
      | [t1, t2, t3], [v1, v2, v3] => match nmIx c t1, nmIx c t2, nmIx c t3, cE n c v1, cE n c v2, cE n c v3, swOf c.sc ts vs with
        | some (_, i), some (_, j), some (_, l), some a, some b, some d, some _ => if decide (i ≠ j ∧ i ≠ l ∧ j ≠ l) then some (.asg3 i j l a b d) else none
        | _, _, _, _, _, _, _ => none
      | _, _ => none
    | _ => if isComp v then none else (match cT 5 c tg, cE n c v with
      | some t, some v' => some (.asgT t v')
      | _, _ => none))
  | _ => none
def cRet (n : Nat) (c : CC) (fresh : Bool) (e : Expr) : Option IS :=
  if fresh then (match e with
    | .Name x _ => (idx c x).map .retO
    | _ => (cE n c e).map .retF)
  else (cE n c e).map .ret
def cEx (n : Nat) (c : CC) (e : Expr) : Option IS := match e with
  | .Call (.Attribute (.Name x _) nm apos) [b] [] cpos => if nm = "append" then (if apos.endLine == cpos.line then (match idx c x, cE n c b with
      | some i, some b' => some (.app i b')
      | _, _ => none) else none) else (cE n c e).map .ex
  | _ => if isComp e then none else (cE n c e).map .ex
def stepS (rec : RecS) (n : Nat) (fresh : Bool) (c : CC) (s : Stmt) : Option IS := match s with
  | .Pass _ => some .pass
  | .Return (some e) _ => cRet n c fresh e
  | .Assign [tg] v _ => cAsg n c tg v
  | .AugAssign (.Name x _) op v _ => if stB c x then (match idx c x, cE n c v with
    | some i, some v' => some (.aug i op v')
    | _, _ => none) else none
  | .Expr e _ => cEx n c e
  | .If t a b _ => if tOk t then (match cE n c t, rec c a, rec c b with
    | some t', some a', some b' => some (.if_ t' a' b')
    | _, _, _ => none) else none
  | .For tg it body [] _ => match cIt (cE n) c it, cT 5 c tg, rec c body with
    | some (it', pr), some t, some b' => if !pr || isTp t then some (.for_ t it' b') else none
    | _, _, _ => none
  | .While t body [] _ => if tOk t then (match cE n c t, rec c body with
    | some t', some b' => some (.while_ t' b')
    | _, _ => none) else none
  | .Raise _ _ _ => some (.raise "E")
  | _ => none
def cL (rec : RecS) (n : Nat) (fresh : Bool) (c : CC) : List Stmt → Option ISs
  | [] => some .nil
  | s :: ss => match stepS rec n fresh c s, cL rec n fresh c ss with
    | some a, some as => some (.cons a as)
    | _, _ => none
def cS : Nat → Nat → Bool → RecS
  | 0, _, _ => fun _ _ => none
  | m + 1, n, fresh => cL (cS m n fresh) n fresh
end BT
namespace BT
open PySem PySem.Spec PyProof.Rows L2
def bnl : List Str := ["len", "abs", "sum", "all", "any", "min", "max", "sorted", "list", "tuple", "int", "bool", "str", "isinstance", "range", "enumerate", "zip", "set"]
/-- what the proofs need of a context -/
structure Good (X : Cx) (c : CC) (C : Calls) (W : WX) (cx : CXT) (cv : String → Value) : Prop where
  N : X.N = c.N
  nd : c.N.Nodup
  calm : X.calm = true
  sc : X.env.scope = c.sc
  kind : c.sc.kind = .function
  fn : ∀ x, c.fn x = true → X.fn x = true
  un : X.A.units + 64 < cLine
  bt : ∀ x ∈ bnl, X.mg x = none
  ks : ∀ x d, c.ks.lookup x = some d → isL d = false ∧ ∃ u v, X.mg x = some u ∧ RelV v u ∧ ∀ F, Rep X.K F d v
  fs : ∀ q ∈ c.fs, FnAt X cx cv W C q.x q.key q.inout q.fresh q.n
  px : Passes cx X (xk cv W)
  pb : ∀ X' : Cx, X'.prog = X.prog → X'.w = X.w → Passes cx X' (xk cv W0)
section
variable {X : Cx} {c : CC} {C : Calls} {W : WX} {cx : CXT} {cv : String → Value}
theorem okNm_iff {x : Str} (h : okNm x = true) : (x == ("__debug__" : Str)) = false ∧ (x == ("__classdict__" : Str)) = false := by
  unfold okNm at h
  simpa using h
theorem idx_some {x : Str} {i : Nat} (h : idx c x = some i) : visB c x = true ∧ okNm x = true ∧ c.N[i]? = some x := by
  unfold idx at h
  split at h
  · rename_i hc
    cases h
    simp only [Bool.and_eq_true, decide_eq_true_eq] at hc
    exact ⟨hc.1.1, hc.1.2, hc.2⟩
  · cases h
theorem visB_iff {x : Str} (h : visB c x = true) : Vis c.sc x := by
  unfold visB at h
  split at h
  · rename_i e; exact .inl e
  · rename_i e; exact .inr (.inl e)
  · rename_i e; exact .inr (.inr e)
  · cases h
theorem Good.var (g : Good X c C W cx cv) {x : Str} {i : Nat} {pos : Pos} (h : idx c x = some i) : PE X (.Name x pos) (tVar i) := by
  obtain ⟨h1, h2, h3⟩ := idx_some h
  obtain ⟨k1, k2⟩ := okNm_iff h2
  exact pe_var (by rw [g.N]; exact h3) (by rw [g.sc]; exact visB_iff h1) k1 k2
theorem gl_iff {x : Str} (h : gl c x = true) : c.sc.names.lookup x = some .globalImplicit ∧ (x == ("__debug__" : Str)) = false := by
  unfold gl at h
  rw [Bool.and_eq_true] at h
  exact ⟨of_decide_eq_true h.1, (okNm_iff h.2).1⟩
theorem Good.gl (g : Good X c C W cx cv) {x : Str} (h : gl c x = true) : Gl X x ∧ (x == ("__debug__" : Str)) = false := by
  obtain ⟨h1, h2⟩ := gl_iff h
  exact ⟨by unfold Gl Env.kindOf; rw [g.sc]; exact h1, h2⟩
theorem Good.name (g : Good X c C W cx cv) {x : Str} {i : Nat} {pos : Pos} (h : idx c x = some i) (hs : stB c x = true) : PG X (.Name x pos) (gName i) ∧ X.N[i]? = some x ∧ Loc X.env.scope x ∧ (X.fn x = true ∨ X.env.scope.names.lookup x = some .local) := by
  obtain ⟨h1, h2, h3⟩ := idx_some h
  have hn : X.N[i]? = some x := by rw [g.N]; exact h3
  have hl : Loc X.env.scope x ∧ (X.fn x = true ∨ X.env.scope.names.lookup x = some .local) := by
    unfold stB at hs
    rw [Bool.or_eq_true, Bool.and_eq_true, decide_eq_true_eq, decide_eq_true_eq] at hs
    rw [g.sc]
    rcases hs with e | ⟨e, f⟩
    · exact ⟨.inl e, .inr e⟩
    · exact ⟨.inr e, .inl (g.fn x f)⟩
  exact ⟨pg_name (by rw [g.N]; exact g.nd) hn hl.1 hl.2, hn, hl⟩
theorem star_of {e : Expr} {es : List Expr} {env : PySem.Env} (h : nst e = true) : starEach (e :: es) env = (false, eval e env) :: starEach es env := by
  cases e <;> first | rfl | cases h
theorem back_of {es : List Expr} {env : PySem.Env} {pos : Pos} (h : ∀ e ∈ es, nst e = true) : (backTo pos (starEach es env)).any (·.1) = false := by
  induction es with
  | nil => rfl
  | cons e es ih =>
    rw [star_of (h e (List.mem_cons_self ..))]
    show (false || (backTo pos (starEach es env)).any (·.1)) = false
    rw [ih fun x hx => h x (List.mem_cons_of_mem _ hx)]
    rfl
theorem asg_of {e : Expr} {es : List Expr} {env : PySem.Env} (h : nst e = true) : (assignEach (e :: es) env).map (·.2) = assign e env :: (assignEach es env).map (·.2) ∧ (assignEach (e :: es) env).length = (assignEach es env).length + 1 ∧ ((assignEach es env).findIdx? (·.1) = none → (assignEach (e :: es) env).findIdx? (·.1) = none) := by
  cases e <;> first | exact ⟨rfl, rfl, fun q => by simp only [assignEach, List.findIdx?_cons, q]; rfl⟩ | cases h
theorem few_one {b : Expr} {env : PySem.Env} {cpos : Pos} (h : nst b = true) : ((backTo cpos (starEach [b] env)).all (fun x => !x.1) && (backToKw cpos (keywordEach [] env)).all (fun x => x.1.isSome)
      && decide ([b].length + ([] : List Keyword).length + (if ([] : List Keyword).isEmpty then 0 else 1) < 30)) = true := by
  rw [star_of h]
  rfl
structure Bun (X : Cx) (C : Calls) (W : WX) (e : Expr) (e' : IE) : Prop where
  st : nst e = true
  pe : ∀ fr, (fr = true → freshE e' = true) → PE X e (EV X C W fr e')
  pt : tOk e = true → PT X e (ET X C W e')
  ns : isB e' = false
theorem Bun.v {e : Expr} {e' : IE} (b : Bun X C W e e') : PE X e (EV X C W false e') := b.pe false fun h => by cases h
/-- a value that is never a new list -/
theorem Bun.of {e : Expr} {e' : IE} (h1 : nst e = true) (h2 : freshE e' = false) (h3 : isB e' = false) (h4 : PE X e (EV X C W false e')) (h5 : tOk e = true → PT X e (ET X C W e')) : Bun X C W e e' :=
  ⟨h1, fun fr h => by
    cases fr with
    | false => exact h4
    | true => rw [h2] at h; exact absurd (h rfl) Bool.false_ne_true, h5, h3⟩
theorem Bun.val {e : Expr} {e' : IE} (h1 : nst e = true) (h3 : isB e' = false) (h4 : ∀ fr, PE X e (EV X C W fr e')) (he : ∀ whole, isTrue e X.env whole = (do let v ← whole; standAt e.pos; holding [v] (truthy v))) : Bun X C W e e' :=
  ⟨h1, fun fr _ => h4 fr, fun _ => pt_vl (h4 false) he, h3⟩
/-- the recursion's promise -/
def RecOk (rec : Rec) (cx : CXT) (cv : String → Value) : Prop := ∀ (X : Cx) (c : CC) (C : Calls) (W : WX) (e : Expr) (e' : IE), Good X c C W cx cv → rec c e = some e' → Bun X C W e e'
variable {rec : Rec} {a b d e : Expr} {a' b' d' e' : IE} {pos p : Pos}
theorem cName_ok (g : Good X c C W cx cv) {x : Str} (h : cName c x = some e') : Bun X C W (.Name x pos) e' := by
  unfold cName at h
  split at h
  · rename_i i hi
    cases h
    exact .of rfl rfl rfl (pe_v (g.var hi)) fun _ => pt_vl (pe_v (g.var hi)) fun _ => rfl
  · split at h
    · rename_i hgl
      obtain ⟨hg, hd⟩ := g.gl hgl
      obtain ⟨d, h1, rfl⟩ := map_none h
      obtain ⟨hn, u, v, hm, rv, rp⟩ := g.ks x d h1
      have q : PE X (.Name x pos) (tC v) := ⟨fun pins s σ H Q I h => ld_glob I hg hm ⟨v, H, I, rv, h⟩ hd⟩
      exact .of rfl rfl rfl (pe_k q rp hn) fun _ => pt_vl (pe_k q rp hn) fun _ => rfl
    · cases h
structure OpB (X : Cx) (C : Calls) (W : WX) (e : Expr) (e' : IE) : Prop where
  st : nst e = true
  po : PE X e (EO X C W e')
theorem cO_ok (hr : RecOk rec cx cv) (g : Good X c C W cx cv) (h : cO rec c e = some e') : OpB X C W e e' := by
  have old : rec c e = some e' → OpB X C W e e' := fun q => ⟨(hr X c C W e e' g q).st, pe_o (hr X c C W e e' g q).v (hr X c C W e e' g q).ns⟩
  unfold cO at h
  split at h
  · rename_i x p
    split at h
    · rename_i i hi
      cases h
      exact ⟨rfl, pe_b (g.var hi)⟩
    · exact old h
  · exact old h
theorem cEs_ok (hr : RecOk rec cx cv) (g : Good X c C W cx cv) : ∀ {es : List Expr} {as : IEs}, cEs rec c es = some as → PA X es (EA X C W as) ∧ ∀ e ∈ es, nst e = true
  | [], as, h => by
    cases h
    exact ⟨pa_n, fun _ h => nomatch h⟩
  | e :: es, as, h => by
    unfold cEs at h
    split at h
    · rename_i a' as' h1 h2
      cases h
      have b := hr X c C W e a' g h1
      obtain ⟨q1, q2⟩ := cEs_ok hr g h2
      exact ⟨pa_c b.v q1 (star_of b.st), fun x hx => by
        rcases List.mem_cons.mp hx with rfl | hx
        · exact b.st
        · exact q2 x hx⟩
    · cases h
theorem cBO_ok (hr : RecOk rec cx cv) (g : Good X c C W cx cv) (op : BoolOp) : ∀ {vs : List Expr} {e' : IE}, cBO rec c op vs = some e' → isB e' = false ∧ PE X (.BoolOp op vs pos) (EV X C W false e') ∧ PW X (.BoolOp op vs pos) (ET X C W e')
  | [], _, h => by cases h
  | [a], e', h => by
    unfold cBO at h
    split at h
    · rename_i ht
      have b := hr X c C W a e' g h
      refine ⟨b.ns, pe_one b.v, ?_⟩
      cases op with
      | And => exact pw_and1 (b.pt ht)
      | Or => exact pw_or1 (b.pt ht)
    · cases h
  | a :: b :: r, e', h => by
    unfold cBO at h
    split at h
    · rename_i a' r' ht h1 h2
      cases h
      have ba := hr X c C W a a' g h1
      obtain ⟨q1, q2, q3⟩ := cBO_ok hr g op h2
      cases op with
      | And => exact ⟨rfl, pe_an ba.v q2, pw_an (ba.pt ht) q3⟩
      | Or => exact ⟨rfl, pe_r ba.v q2, pw_r (ba.pt ht) q3⟩
    · cases h
theorem cBO_fr {op : BoolOp} {r : List Expr} (h : cBO rec c op (a :: b :: r) = some e') : freshE e' = false := by
  unfold cBO at h
  split at h
  · cases h
    cases op <;> rfl
  · cases h
theorem set_of {op : CmpOp} (h : OpB X C W b b') (n : ∀ es k p, b ≠ .Set es k p) : behindInMarks op b = false := by
  unfold behindInMarks
  split
  · exact absurd rfl (n _ _ _)
  · rfl
def isSetE : Expr → Bool
  | .Set .. => true
  | _ => false
def isSlE : Expr → Bool
  | .Slice .. => true
  | _ => false
/-- what is never compiled -/
def RecNo (rec : Rec) : Prop := ∀ c e e', rec c e = some e' → isSetE e = false ∧ isSlE e = false
theorem cO_no (hn : RecNo rec) (h : cO rec c e = some e') : isSetE e = false ∧ isSlE e = false := by
  unfold cO at h
  split at h
  · exact ⟨rfl, rfl⟩
  · exact hn _ _ _ h
theorem marks_of {op : CmpOp} (h : isSetE b = false) : behindInMarks op b = false := by
  cases b <;> first | rfl | cases h
theorem noneE_iff (h : isNoneE b = true) : ∃ k p, b = .Constant .none k p := by
  unfold isNoneE at h
  split at h
  · exact ⟨_, _, rfl⟩
  · cases h
theorem cCmp1_ok (hr : RecOk rec cx cv) (hn : RecNo rec) (g : Good X c C W cx cv) {op : CmpOp} (h : cCmp1 rec c a op b = some e') : Bun X C W (.Compare a [op] [b] pos) e' := by
  unfold cCmp1 at h
  split at h
  · rename_i hb
    obtain ⟨k, p, rfl⟩ := noneE_iff hb
    split at h
    · obtain ⟨a', h1, rfl⟩ := map_none h
      have o := cO_ok hr g h1
      exact .of rfl rfl rfl (pe_isn o.po) fun _ => pt_isn o.po
    · obtain ⟨a', h1, rfl⟩ := map_none h
      have o := cO_ok hr g h1
      exact .of rfl rfl rfl (pe_notn o.po) fun _ => pt_notn o.po
    · cases h
  · split at h
    · rename_i a' b' h1 h2
      cases h
      have o1 := cO_ok hr g h1
      have o2 := cO_ok hr g h2
      have m := marks_of (op := op) (cO_no hn h2).1
      exact .of rfl rfl rfl (pe_cm g.un m o1.po o2.po) fun _ => pt_cm g.un m o1.po o2.po
    · cases h
theorem Good.nob (g : Good X c C W cx cv) {x : Str} (h : x ∈ bnl) : X.mg x = none := g.bt x h
theorem prB_ok {x : Str} {q : Pr × String} (h : prB x = some q) (hc : X.calm = true) : CallR X (.builtin q.2) (rPr X.K q.1) ∧ bootBuiltins x = some (.builtin q.2) ∧ x ≠ "__name__" ∧ x ∈ bnl := by
  unfold prB at h
  split at h
  · rename_i e; cases h; rw [e]; exact ⟨pr_len, boot_len, by decide +kernel, by decide +kernel⟩
  ·
    split at h
    · rename_i e; cases h; rw [e]; exact ⟨pr_abs, boot_abs, by decide +kernel, by decide +kernel⟩
    ·
      split at h
      · rename_i e; cases h; rw [e]; exact ⟨pr_sum hc, boot_sum, by decide +kernel, by decide +kernel⟩
      ·
        split at h
        · rename_i e; cases h; rw [e]; exact ⟨pr_all hc, boot_all, by decide +kernel, by decide +kernel⟩
        ·
          split at h
          · rename_i e; cases h; rw [e]; exact ⟨pr_any hc, boot_any, by decide +kernel, by decide +kernel⟩
          ·
            split at h
            · rename_i e; cases h; rw [e]; exact ⟨pr_min hc, boot_min, by decide +kernel, by decide +kernel⟩
            ·
              split at h
              · rename_i e; cases h; rw [e]; exact ⟨pr_max hc, boot_max, by decide +kernel, by decide +kernel⟩
              ·
                split at h
                · rename_i e; cases h; rw [e]; exact ⟨pr_sorted, boot_sorted, by decide +kernel, by decide +kernel⟩
                ·
                  cases h
theorem prT_ok {x : Str} {q : Pr × String} (h : prT x = some q) : CallR X (.type q.2) (rPr X.K q.1) ∧ bootBuiltins x = some (.type q.2) ∧ x ≠ "__name__" ∧ x ∈ bnl := by
  unfold prT at h
  split at h
  · rename_i e; cases h; rw [e]; exact ⟨pr_list, boot_list, by decide +kernel, by decide +kernel⟩
  ·
    split at h
    · rename_i e; cases h; rw [e]; exact ⟨pr_tuple, boot_tuple, by decide +kernel, by decide +kernel⟩
    ·
      split at h
      · rename_i e; cases h; rw [e]; exact ⟨pr_int, boot_int, by decide +kernel, by decide +kernel⟩
      ·
        cases h
theorem tyOf_ok {x : Str} {t : Ty} (h : tyOf x = some t) : bootBuiltins x = some (.type (tyS t)) ∧ x ≠ "__name__" ∧ x ∈ bnl := by
  unfold tyOf at h
  split at h
  · rename_i e; cases h; rw [e]; exact ⟨boot_bool, by decide +kernel, by decide +kernel⟩
  ·
    split at h
    · rename_i e; cases h; rw [e]; exact ⟨boot_int, by decide +kernel, by decide +kernel⟩
    ·
      split at h
      · rename_i e; cases h; rw [e]; exact ⟨boot_str, by decide +kernel, by decide +kernel⟩
      ·
        split at h
        · rename_i e; cases h; rw [e]; exact ⟨boot_list, by decide +kernel, by decide +kernel⟩
        ·
          split at h
          · rename_i e; cases h; rw [e]; exact ⟨boot_tuple, by decide +kernel, by decide +kernel⟩
          ·
            cases h
theorem tyE1_ok (g : Good X c C W cx cv) {t : Ty} (h : tyE1 c e = some t) : PE X e (fun _ H Q => Q (.ty (tyS t)) H) ∧ nst e = true := by
  unfold tyE1 at h
  split at h
  · split at h
    · rename_i hgl
      obtain ⟨hg, hd⟩ := g.gl hgl
      obtain ⟨h1, h2, h3⟩ := tyOf_ok h
      exact ⟨⟨fun pins s σ H Q I q => ld_blt I hg (g.nob h3) h1 ⟨.ty _, H, I, rfl, q⟩ h2 hd⟩, rfl⟩
    · cases h
  · cases h
theorem tyEs_ok (g : Good X c C W cx cv) : ∀ {es : List Expr} {ts : List Ty}, tyEs c es = some ts → PA X es (fun _ H Q => Q (ts.map fun t => V.ty (tyS t)) H)
  | [], ts, h => by
    cases h
    exact PA.imp pa_nil fun _ _ _ q => q
  | e :: es, ts, h => by
    unfold tyEs at h
    split at h
    · rename_i t ts' h1 h2
      cases h
      obtain ⟨q1, q2⟩ := tyE1_ok g h1
      exact PA.imp (pa_cons q1 (tyEs_ok g h2) (star_of q2)) fun _ _ _ q => q
    · cases h
theorem tyE_ok (g : Good X c C W cx cv) {ts : List Ty} (h : tyE c e = some ts) (hl : ts.length ≤ 100) : TyE X e ts ∧ nst e = true := by
  unfold tyE at h
  split at h
  · refine ⟨⟨_, pe_tup (tyEs_ok g h), fun σ H Q q => ⟨by rw [List.length_map]; exact Nat.le_trans hl (by decide), fun p hp => q _ _ (.inr ⟨p, rfl, hp, rfl⟩)⟩⟩, rfl⟩
  · obtain ⟨t, h1, rfl⟩ := map_none h
    obtain ⟨q1, q2⟩ := tyE1_ok g h1
    exact ⟨⟨_, q1, fun σ H Q q => q _ _ (.inl ⟨t, rfl, rfl, rfl⟩)⟩, q2⟩
end
end BT
namespace BT
open PySem PySem.Spec PyProof.Rows L2
section
variable {X : Cx} {c : CC} {C : Calls} {W : WX} {cx : CXT} {cv : String → Value}
variable {rec : Rec} {a b d e : Expr} {a' b' d' e' : IE} {pos p : Pos}
theorem bn_len : ("len" : Str) ∈ bnl := by decide +kernel
theorem bn_sorted : ("sorted" : Str) ∈ bnl := by decide +kernel
theorem bn_set : ("set" : Str) ∈ bnl := by decide +kernel
theorem bn_range : ("range" : Str) ∈ bnl := by decide +kernel
theorem bn_list : ("list" : Str) ∈ bnl := by decide +kernel
theorem bn_tuple : ("tuple" : Str) ∈ bnl := by decide +kernel
theorem bn_min : ("min" : Str) ∈ bnl := by decide +kernel
theorem bn_max : ("max" : Str) ∈ bnl := by decide +kernel
theorem bn_isi : ("isinstance" : Str) ∈ bnl := by decide +kernel
theorem bn_en : ("enumerate" : Str) ∈ bnl := by decide +kernel
theorem bn_zip : ("zip" : Str) ∈ bnl := by decide +kernel
theorem star0 {e : Expr} {env : PySem.Env} (h : nst e = true) : starEach [e] env = [(false, eval e env)] := star_of h
theorem one_B (hr : RecOk rec cx cv) (g : Good X c C W cx cv) {f : Str} {pr : Pr × String} (hp : prB f = some pr) (hgl : gl c f = true) (h : (cO rec c a).map (IE.pr pr.1) = some e') : Bun X C W (.Call (.Name f p) [a] [] pos) e' := by
  obtain ⟨hg, hd⟩ := g.gl hgl
  obtain ⟨h1, h2, h3, h4⟩ := prB_ok (X := X) hp g.calm
  obtain ⟨a', ha, rfl⟩ := map_none h
  have o := cO_ok hr g ha
  exact .val rfl rfl (fun fr => pe_prB h1 hg (g.nob h4) h2 o.po h3 hd (star_of o.st)) fun _ => rfl
theorem one_T (hr : RecOk rec cx cv) (g : Good X c C W cx cv) {f : Str} {pr : Pr × String} (hp : prT f = some pr) (hgl : gl c f = true) (h : (cO rec c a).map (IE.pr pr.1) = some e') : Bun X C W (.Call (.Name f p) [a] [] pos) e' := by
  obtain ⟨hg, hd⟩ := g.gl hgl
  obtain ⟨h1, h2, h3, h4⟩ := prT_ok (X := X) hp
  obtain ⟨a', ha, rfl⟩ := map_none h
  have o := cO_ok hr g ha
  exact .val rfl rfl (fun fr => pe_prT h1 hg (g.nob h4) h2 o.po h3 hd (star_of o.st)) fun _ => rfl
theorem prB_name {f : Str} {s : String} : ∀ {pr : Pr}, prB f = some (pr, s) → (pr = .len → f = "len") ∧ (pr = .sorted → f = "sorted") := by
  intro pr h
  unfold prB at h
  split at h
  · rename_i e; cases h; exact ⟨fun _ => e, nofun⟩
  · split at h
    · cases h; exact ⟨nofun, nofun⟩
    · split at h
      · cases h; exact ⟨nofun, nofun⟩
      · split at h
        · cases h; exact ⟨nofun, nofun⟩
        · split at h
          · cases h; exact ⟨nofun, nofun⟩
          · split at h
            · cases h; exact ⟨nofun, nofun⟩
            · split at h
              · cases h; exact ⟨nofun, nofun⟩
              · split at h
                · rename_i e; cases h; exact ⟨nofun, fun _ => e⟩
                · cases h
theorem prT_name {f : Str} {s : String} : ∀ {pr : Pr}, prT f = some (pr, s) → (pr = .list → f = "list") ∧ (pr = .tuple → f = "tuple") := by
  intro pr h
  unfold prT at h
  split at h
  · rename_i e; cases h; exact ⟨fun _ => e, nofun⟩
  · split at h
    · rename_i e; cases h; exact ⟨nofun, fun _ => e⟩
    · split at h
      · cases h; exact ⟨nofun, nofun⟩
      · cases h
theorem cB1_ok (hr : RecOk rec cx cv) (g : Good X c C W cx cv) {f : Str} (hgl : gl c f = true) (h : cB1 rec c f a = some e') : Bun X C W (.Call (.Name f p) [a] [] pos) e' := by
  obtain ⟨hg, hd⟩ := g.gl hgl
  unfold cB1 at h
  split at h
  · rename_i pr s hp
    obtain ⟨n1, n2⟩ := prB_name hp
    split at h
    · rename_i gn gp b bp
      split at h
      · rename_i hs
        rw [Bool.and_eq_true, decide_eq_true_eq] at hs
        obtain ⟨rfl, hgs⟩ := hs
        obtain ⟨hg2, hd2⟩ := g.gl hgs
        split at h
        · rename_i b' hb
          cases h
          have o := cO_ok hr g hb
          have ef := n1 rfl
          subst ef
          exact .val rfl rfl (fun fr => pe_lenset g.calm hg (g.nob bn_len) hg2 (g.nob bn_set) o.po (star_of o.st)) fun _ => rfl
        · rename_i b' hb
          cases h
          have o := cO_ok hr g hb
          have ef := n2 rfl
          subst ef
          exact .val rfl rfl (fun fr => pe_sortset g.calm hg (g.nob bn_sorted) hg2 (g.nob bn_set) o.po (star_of o.st)) fun _ => rfl
        · cases h
      · exact one_B hr g hp hgl h
    · exact one_B hr g hp hgl h
  · split at h
    · rename_i pr s hp
      obtain ⟨n1, n2⟩ := prT_name hp
      split at h
      · rename_i gn gp as bp
        split at h
        · rename_i hs
          rw [Bool.and_eq_true, decide_eq_true_eq] at hs
          obtain ⟨rfl, hgs⟩ := hs
          obtain ⟨hg2, hd2⟩ := g.gl hgs
          split at h
          · rename_i n
            obtain ⟨n', hn, rfl⟩ := map_none h
            have o := hr X c C W n n' g hn
            have ef := n1 rfl
            subst ef
            exact .val rfl rfl (fun fr => pe_lrg g.calm hg (g.nob bn_list) hg2 (g.nob bn_range) o.v (star_of o.st) (star_of rfl)) fun _ => rfl
          · rename_i n
            obtain ⟨n', hn, rfl⟩ := map_none h
            have o := hr X c C W n n' g hn
            have ef := n2 rfl
            subst ef
            exact .of rfl rfl rfl (pe_trg g.calm hg (g.nob bn_tuple) hg2 (g.nob bn_range) o.v (star_of o.st) (star_of rfl)) fun _ => pt_vl (pe_trg g.calm hg (g.nob bn_tuple) hg2 (g.nob bn_range) o.v (star_of o.st) (star_of rfl)) fun _ => rfl
          · rename_i m n
            split at h
            · rename_i m' n' hm hn
              cases h
              have o := hr X c C W m m' g hm
              have o2 := hr X c C W n n' g hn
              have ef := n1 rfl
              subst ef
              exact .val rfl rfl (fun fr => pe_lrg2 g.calm hg (g.nob bn_list) hg2 (g.nob bn_range) o.v o2.v (star_of o.st) (star_of o2.st) (back_of fun x hx => by rw [List.mem_singleton.mp hx]; exact o2.st) (star_of rfl)) fun _ => rfl
            · cases h
          · cases h
        · exact one_T hr g hp hgl h
      · exact one_T hr g hp hgl h
    · cases h
theorem tyOf_len {ts : List Ty} (h : tyE c b = some ts) : True := trivial
theorem cB2_ok (hr : RecOk rec cx cv) (g : Good X c C W cx cv) {f : Str} (hgl : gl c f = true) (h : cB2 rec c f a b = some e') : Bun X C W (.Call (.Name f p) [a, b] [] pos) e' := by
  obtain ⟨hg, hd⟩ := g.gl hgl
  unfold cB2 at h
  split at h
  · rename_i ef
    subst ef
    split at h
    · rename_i a' ts ha hb
      split at h
      · rename_i hl
        cases h
        have o := cO_ok hr g ha
        obtain ⟨q1, q2⟩ := tyE_ok g hb (of_decide_eq_true hl)
        have pe := pe_is (q := p) (pos := pos) hg (g.nob bn_isi) boot_isinstance o.po q1 (by decide +kernel) hd (star_of o.st) (star_of q2)
        exact .of rfl rfl rfl pe fun _ => pt_vl pe fun _ => rfl
      · cases h
    · cases h
  · split at h
    · rename_i ef
      subst ef
      split at h
      · rename_i a' b' ha hb
        cases h
        have o := hr X c C W a a' g ha
        have o2 := hr X c C W b b' g hb
        have pe := pe_mn (q := p) (pos := pos) g.calm hg (g.nob bn_min) boot_min o.v o2.v (by decide +kernel) hd (star_of o.st) (star_of o2.st)
        exact .of rfl rfl rfl pe fun _ => pt_vl pe fun _ => rfl
      · cases h
    · split at h
      · rename_i ef
        subst ef
        split at h
        · rename_i a' b' ha hb
          cases h
          have o := hr X c C W a a' g ha
          have o2 := hr X c C W b b' g hb
          have pe := pe_mx (q := p) (pos := pos) g.calm hg (g.nob bn_max) boot_max o.v o2.v (by decide +kernel) hd (star_of o.st) (star_of o2.st)
          exact .of rfl rfl rfl pe fun _ => pt_vl pe fun _ => rfl
        · cases h
      · cases h
theorem fi_ok {f : Str} {q : FI} (h : fi c f = some q) : q ∈ c.fs ∧ q.x = f := by
  unfold fi at h
  exact ⟨List.mem_of_find?_eq_some h, by simpa using List.find?_some h⟩
theorem cCall_ok (hr : RecOk rec cx cv) (g : Good X c C W cx cv) {f : Str} {as : List Expr} (h : cCall rec c f as = some e') : Bun X C W (.Call (.Name f p) as [] pos) e' := by
  unfold cCall at h
  split at h
  · rename_i hgl
    obtain ⟨hg, hd⟩ := g.gl hgl
    split at h
    · rename_i q hq
      obtain ⟨hq1, hq2⟩ := fi_ok hq
      have F := g.fs q hq1
      rw [hq2] at F
      split at h
      · cases h
      · rename_i a rest
        split at h
        · rename_i hio
          split at h
          · rename_i x xp
            split at h
            · rename_i i as' hi has
              split at h
              · rename_i hl
                cases h
                obtain ⟨q1, q2⟩ := cEs_ok hr g has
                rw [hio] at F
                have pe := pe_cs (p := p) (pos := pos) F (fr := false) (fun h => by cases h) hg g.px (of_decide_eq_true hl) (g.var (pos := xp) hi) q1 hd (star_of rfl) (back_of q2)
                exact .of rfl rfl rfl pe fun _ => pt_vl pe fun _ => rfl
              · cases h
            · cases h
          · cases h
        · rename_i hio
          have hio : q.inout = false := by simpa using hio
          rw [hio] at F
          split at h
          · rename_i as' has
            split at h
            · rename_i hl
              cases h
              obtain ⟨q1, q2⟩ := cEs_ok hr g has
              have hst := star_of (es := rest) (env := X.env) (q2 a (List.mem_cons_self ..))
              have hbk := back_of (env := X.env) (pos := pos) fun x hx => q2 x (List.mem_cons_of_mem _ hx)
              cases hf : q.fresh with
              | true =>
                rw [hf] at F
                simp only [if_true]
                exact .val rfl rfl (fun fr => pe_cl (p := p) F (.callF q.key as') (fun _ => by simp only [ev] <;> rfl) (fun _ => rfl) hg g.px (of_decide_eq_true hl) q1 hd hst hbk) fun _ => rfl
              | false =>
                rw [hf] at F
                simp only [Bool.false_eq_true, if_false]
                have pe := pe_cl (p := p) (pos := pos) (fr := false) F (.call q.key as') (fun _ => by simp only [ev] <;> rfl) (fun h => by cases h) hg g.px (of_decide_eq_true hl) q1 hd hst hbk
                exact .of rfl rfl rfl pe fun _ => pt_vl pe fun _ => rfl
            · cases h
          · cases h
    · split at h
      · exact cB1_ok hr g hgl h
      · exact cB2_ok hr g hgl h
      · cases h
  · cases h
theorem cMeth_ok (hr : RecOk rec cx cv) (g : Good X c C W cx cv) {o : Expr} {nm : Str} {as : List Expr} {apos cpos : Pos} (h : cMeth rec c o nm as apos cpos = some e') : Bun X C W (.Call (.Attribute o nm apos) as [] cpos) e' := by
  unfold cMeth at h
  split at h
  · rename_i hline
    split at h
    · rename_i x xp
      split at h
      · rename_i en
        subst en
        split at h
        · rename_i i hi
          cases h
          have pe := pe_pop0 (C := C) (W := W) (g.var hi (pos := xp)) rfl hline
          exact .of rfl rfl rfl pe fun _ => pt_vl pe fun _ => rfl
        · rename_i i a hi
          obtain ⟨a', ha, rfl⟩ := map_none h
          have o := hr X c C W a a' g ha
          have pe := pe_popAt (g.var hi (pos := xp)) o.v rfl (few_one o.st) hline (star_of o.st) rfl
          exact .of rfl rfl rfl pe fun _ => pt_vl pe fun _ => rfl
        · cases h
      · split at h
        · rename_i en
          subst en
          split at h
          · rename_i o' a ho
            obtain ⟨a', ha, rfl⟩ := map_none h
            have b0 := cName_ok g (pos := xp) ho
            have o := hr X c C W a a' g ha
            have pe := pe_index b0.v o.v rfl (few_one o.st) hline (star_of o.st) rfl
            exact .of rfl rfl rfl pe fun _ => pt_vl pe fun _ => rfl
          · cases h
        · cases h
    · cases h
  · cases h
theorem plain_of (h : isSlE b = false) : PlainIx b := by
  intro o i
  cases b <;> first | rfl | cases h
theorem cSub_ok (hr : RecOk rec cx cv) (hn : RecNo rec) (g : Good X c C W cx cv) (h : cSub rec c a b = some e') : Bun X C W (.Subscript a b pos) e' := by
  unfold cSub at h
  split at h
  · cases h
  · rename_i a' ha
    have o := cO_ok hr g ha
    split at h
    · cases h
      exact .val rfl rfl (fun fr => pe_rv o.po) fun _ => rfl
    · obtain ⟨b', hb, rfl⟩ := map_none h
      have o2 := cO_ok hr g hb
      exact .val rfl rfl (fun fr => pe_sl1 true o.po o2.po) fun _ => rfl
    · obtain ⟨b', hb, rfl⟩ := map_none h
      have o2 := cO_ok hr g hb
      exact .val rfl rfl (fun fr => pe_sl1 false o.po o2.po) fun _ => rfl
    · split at h
      · rename_i l h' h1 h2
        cases h
        have o2 := hr X c C W _ _ g h1
        have o3 := hr X c C W _ _ g h2
        exact .val rfl rfl (fun fr => pe_sl2 o.po o2.v o3.v) fun _ => rfl
      · cases h
    · obtain ⟨b', hb, rfl⟩ := map_none h
      have o2 := cO_ok hr g hb
      have pe := pe_ixD (pos := pos) (plain_of (cO_no hn hb).2) o.po o2.po
      exact .of rfl rfl rfl pe fun _ => pt_vl pe fun _ => rfl
theorem nst_tg : ∀ {n : Nat} {e : Expr} {t : Tg}, cT n c e = some t → nst e = true
  | n + 1, e, t, h => by
    cases e <;> first | rfl | (unfold cT at h; cases h)
theorem cT_ok (g : Good X c C W cx cv) : ∀ {n : Nat} {e : Expr} {t : Tg}, cT n c e = some t → PG X e (gT X.K t) ∧ (isTp t = true → ∃ es k p, e = .Tuple es k p)
  | n + 1, e, t, h => by
    unfold cT at h
    split at h
    · rename_i x p
      split at h
      · rename_i hs
        obtain ⟨i, hi, rfl⟩ := map_none h
        exact ⟨pg_v (g.name hi hs).1, fun h => by cases h⟩
      · cases h
    · split at h
      · rename_i a' b' h1 h2
        cases h
        obtain ⟨q1, _⟩ := cT_ok g h1
        obtain ⟨q2, _⟩ := cT_ok g h2
        obtain ⟨s1, s2, s3⟩ := asg_of (env := X.env) (es := [_]) (nst_tg h1)
        obtain ⟨t1, t2, t3⟩ := asg_of (env := X.env) (es := []) (nst_tg h2)
        exact ⟨pg_p2 g.calm q1 q2 s1 t1 (by rw [s2, t2]; rfl) (s3 (t3 rfl)), fun _ => ⟨_, _, _, rfl⟩⟩
      · cases h
    · split at h
      · rename_i a' b' d' h1 h2 h3
        cases h
        obtain ⟨q1, _⟩ := cT_ok g h1
        obtain ⟨q2, _⟩ := cT_ok g h2
        obtain ⟨q3, _⟩ := cT_ok g h3
        obtain ⟨s1, s2, s3⟩ := asg_of (env := X.env) (es := [_, _]) (nst_tg h1)
        obtain ⟨t1, t2, t3⟩ := asg_of (env := X.env) (es := [_]) (nst_tg h2)
        obtain ⟨u1, u2, u3⟩ := asg_of (env := X.env) (es := []) (nst_tg h3)
        exact ⟨pg_p3 g.calm q1 q2 q3 s1 t1 u1 (by rw [s2, t2, u2]; rfl) (s3 (t3 (u3 rfl))), fun _ => ⟨_, _, _, rfl⟩⟩
      · cases h
    · cases h
end
end BT
namespace BT
open PySem PySem.Spec PyProof.Rows L2
section
variable {X : Cx} {c : CC} {C : Calls} {W : WX} {cx : CXT} {cv : String → Value}
variable {rec : Rec} {a b d e : Expr} {a' b' d' e' : IE} {pos p : Pos}
theorem fold_of (h : isSetE e = false) (env : PySem.Env) (x : Value) : foldedSetIterable e env x = pure x := by
  cases e <;> first | rfl | cases h
theorem cIt_ok (hr : RecOk rec cx cv) (hn : RecNo rec) (g : Good X c C W cx cv) {it : It} {pr : Bool} (h : cIt rec c e = some (it, pr)) : (∀ tg, (pr = true → ∃ es k p, tg = .Tuple es k p) → PI X tg e (EI X C W pr it)) ∧ isSetE e = false := by
  have old : (rec c e).map (fun a' => (It.e a', false)) = some (it, pr) → (∀ tg, (pr = true → ∃ es k p, tg = .Tuple es k p) → PI X tg e (EI X C W pr it)) ∧ isSetE e = false := fun q => by
    obtain ⟨a', h1, h2⟩ := map_none q
    cases h2
    exact ⟨fun tg _ => pi_e (hr X c C W e a' g h1).v, (hn c e a' h1).1⟩
  unfold cIt at h
  split at h
  · rename_i f fp as cp
    split at h
    · rename_i hf
      rw [Bool.and_eq_true, decide_eq_true_eq] at hf
      obtain ⟨hgl, rfl⟩ := hf
      obtain ⟨hg, hd⟩ := g.gl hgl
      split at h
      · rename_i a
        obtain ⟨a', h1, h2⟩ := map_none h
        cases h2
        have o := hr X c C W a a' g h1
        exact ⟨fun tg _ => pi_r1 hg (g.nob bn_range) o.v (star0 o.st) (star_of o.st), rfl⟩
      · rename_i a b
        split at h
        · rename_i a' b' h1 h2
          cases h
          have o := hr X c C W a a' g h1
          have o2 := hr X c C W b b' g h2
          exact ⟨fun tg _ => pi_r2 hg (g.nob bn_range) o.v o2.v (by rw [star_of o.st, star0 o2.st]) (star0 o2.st) (star_of o.st) (star_of o2.st), rfl⟩
        · cases h
      · rename_i a b d
        split at h
        · rename_i a' b' d' h1 h2 h3
          cases h
          have o := hr X c C W a a' g h1
          have o2 := hr X c C W b b' g h2
          have o3 := hr X c C W d d' g h3
          exact ⟨fun tg _ => pi_r3 hg (g.nob bn_range) o.v o2.v o3.v (star_of o.st) (back_of fun x hx => by
            rcases List.mem_cons.mp hx with rfl | hx
            · exact o2.st
            · rw [List.mem_singleton.mp hx]; exact o3.st) (star_of o2.st) (star_of o3.st), rfl⟩
        · cases h
      · cases h
    · split at h
      · rename_i hf
        rw [Bool.and_eq_true, decide_eq_true_eq] at hf
        obtain ⟨hgl, rfl⟩ := hf
        obtain ⟨hg, hd⟩ := g.gl hgl
        split at h
        · rename_i a
          obtain ⟨a', h1, h2⟩ := map_none h
          cases h2
          have o := hr X c C W a a' g h1
          refine ⟨fun tg q => ?_, rfl⟩
          obtain ⟨es, k, p, rfl⟩ := q rfl
          exact pi_enum hg (g.nob bn_en) o.v (star0 o.st) (star_of o.st)
        · cases h
      · split at h
        · rename_i hf
          rw [Bool.and_eq_true, decide_eq_true_eq] at hf
          obtain ⟨hgl, rfl⟩ := hf
          obtain ⟨hg, hd⟩ := g.gl hgl
          split at h
          · rename_i a b
            split at h
            · rename_i a' b' h1 h2
              cases h
              have o := hr X c C W a a' g h1
              have o2 := hr X c C W b b' g h2
              refine ⟨fun tg q => ?_, rfl⟩
              obtain ⟨es, k, p, rfl⟩ := q rfl
              exact BT.pi_zip hg (g.nob bn_zip) o.v o2.v (star_of o.st) (back_of fun x hx => by rw [List.mem_singleton.mp hx]; exact o2.st) (star_of o2.st)
            · cases h
          · cases h
        · exact old h
  · exact old h
theorem Good.blk (g : Good X c C W cx cv) {scope : Scope} (hk : scope.kind = .function) (s : Shared) (H : Hp) (a : Addr) (cl : List (Str × Addr)) (fp : List Addr) : Good (X.blk s H scope (compEnvC scope cl a X.env) fp) (blkCC c scope) C W0 cx cv where
  N := g.N
  nd := g.nd
  calm := g.calm
  sc := by
    show relabel scope X.env = relS scope c.sc
    rw [← g.sc]
    rfl
  kind := hk
  fn := fun x h => h
  un := g.un
  bt := g.bt
  ks := g.ks
  fs := fun q hq => by
    obtain ⟨k, fa, fd, ps, sp, fo, hsp, hh⟩ := (g.fs q hq).ex
    exact ⟨k, fa, fd, ps, sp, fo, fun W' h vs H Q z => hsp W' (fun c H q => (h c H q).elim) vs H Q z, hh⟩
  px := g.pb _ rfl rfl
  pb := fun X' h1 h2 => g.pb X' h1 h2
/-- the parts of a comprehension -/
structure LcP (X : Cx) (C : Calls) (W : WX) (elt tg iter : Expr) (ifs : List Expr) (scope : Scope) (e' : IE) (own : List (Str × Nat)) (wi : TI) (g : TG) (tt : TT) (te : TE) : Prop where
  hi : PI X tg iter wi
  ok : BlkOk X.N X.env.scope scope own
  hg : ∀ (s : Shared) (H : Hp) (C : Addr) (cl : List (Str × Addr)) (fp : List Addr), PG (X.blk s H scope (compEnvC scope cl C X.env) fp) tg g
  ht : ∀ (s : Shared) (H : Hp) (C : Addr) (cl : List (Str × Addr)) (fp : List Addr), PTs (X.blk s H scope (compEnvC scope cl C X.env) fp) ifs tt
  he : ∀ (s : Shared) (H : Hp) (C : Addr) (cl : List (Str × Addr)) (fp : List Addr), PE (X.blk s H scope (compEnvC scope cl C X.env) fp) elt te
  hs : ∀ x, foldedSetIterable iter X.env x = pure x
  rd : ∀ fr σ H Q, EV X C W fr e' σ H Q → tLc wi g tt te (own.map (·.2)) σ H Q
  fr : freshE e' = true
  nb : isB e' = false
theorem cLc_ok (hr : RecOk rec cx cv) (hn : RecNo rec) (g : Good X c C W cx cv) {elt tg iter : Expr} {ifs : List Expr} {scope : Scope} (h : cLc rec c elt tg iter ifs scope = some e') :
    ∃ own wi gg tt te, LcP X C W elt tg iter ifs scope e' own wi gg tt te := by
  unfold cLc at h
  split at h
  · rename_i hb
    have ok : BlkOk X.N X.env.scope scope (ownOf c.N scope) := by rw [g.N, g.sc]; exact blkOk_by hb
    have gb := fun s H a cl fp => g.blk (scope := scope) ok.kind s H a cl fp
    split at h
    · rename_i it pr t e1 h1 h2 h3
      split at h
      · rename_i hc
        rw [Bool.and_eq_true, Bool.or_eq_true, Bool.not_eq_true'] at hc
        have tp : pr = true → isTp t = true := fun q => hc.1.resolve_left (by rw [q]; exact Bool.noConfusion)
        obtain ⟨q1, q2⟩ := cIt_ok hr hn g h1
        have hi := q1 tg fun q => (cT_ok (gb X.s_0 X.H_0 0 [] []) h2).2 (tp q)
        have hg := fun s H a cl fp => (cT_ok (gb s H a cl fp) h2).1
        have he := fun s H a cl fp => (hr _ _ C W0 elt e1 (gb s H a cl fp) h3).v
        split at h
        · cases h
          refine ⟨_, _, _, _, _, hi, ok, hg, fun s H a cl fp => pts_nil, he, fold_of q2 X.env, fun fr σ H Q ⟨Z, F, env, r, q⟩ => lc_read (C := C) (W := W) (it := it) (fr := fr) (f := fun e => match ev C e1 e with | .ok y e' => .ok (some y) e' | _ => .stuck) r (turn_lc e1) tp hc.2 (by simp only [ev] at q; exact q), rfl, rfl⟩
        · rename_i dd
          split at h
          · rename_i htk
            obtain ⟨d', h4, rfl⟩ := map_none h
            refine ⟨_, _, _, _, _, hi, ok, hg, fun s H a cl fp => pts_one ((hr _ _ C W0 dd d' (gb s H a cl fp) h4).pt htk), he, fold_of q2 X.env, fun fr σ H Q ⟨Z, F, env, r, q⟩ => lc_read (C := C) (W := W) (it := it) (fr := fr) r (turn_lcf e1 d') tp hc.2 (by simp only [ev] at q; exact q), rfl, rfl⟩
          · cases h
        · cases h
      · cases h
    · cases h
  · cases h
theorem LcP.pe {elt tg iter : Expr} {ifs : List Expr} {scope : Scope} {own : List (Str × Nat)} {wi : TI} {gg : TG} {tt : TT} {te : TE} (P : LcP X C W elt tg iter ifs scope e' own wi gg tt te) (g : Good X c C W cx cv) (fr : Bool) : PE X (.ListComp elt [⟨tg, iter, ifs, 0⟩] scope pos) (EV X C W fr e') :=
  PE.imp (pe_lc g.calm (by rw [g.N]; exact g.nd) P.hi P.ok P.hg P.ht P.he P.hs) fun σ H Q q => P.rd fr σ H Q q
theorem cK_ok {k : Const} {j : Nat} {d : D} (h : cK k = some d) : isL d = false ∧ ∃ v, PE X (.Constant k j pos) (tC v) ∧ ∀ F, Rep X.K F d v := by
  unfold cK at h
  split at h
  · cases h; exact ⟨rfl, _, pe_non, fun F => .non⟩
  · cases h; exact ⟨rfl, _, pe_bl, fun F => .bl _⟩
  · cases h; exact ⟨rfl, _, pe_int, fun F => .int _⟩
  · cases h; exact ⟨rfl, _, pe_str, fun F => .str _⟩
  · cases h
theorem marks2 {op op' : CmpOp} (h : isSetE d = false) : lastMarks [op, op'] [b, d] = false := by
  show behindInMarks op' d = false
  exact marks_of h
theorem stepE_ok (hr : RecOk rec cx cv) (hn : RecNo rec) : RecOk (stepE rec) cx cv := by
  intro X c C W e e' g h
  unfold stepE at h
  split at h
  · obtain ⟨d, h1, rfl⟩ := map_none h
    obtain ⟨q1, v, q2, q3⟩ := cK_ok (X := X) h1
    exact .of rfl rfl rfl (pe_k q2 q3 q1) fun _ => pt_vl (pe_k q2 q3 q1) fun _ => rfl
  · exact cName_ok g h
  · rename_i a op b pos
    split at h
    · rename_i a' b' h1 h2
      cases h
      have o1 := cO_ok hr g h1
      have o2 := cO_ok hr g h2
      exact .val rfl rfl (fun fr => pe_bin o1.po o2.po) fun _ => rfl
    · cases h
  · obtain ⟨a', h1, rfl⟩ := map_none h
    have o := hr X c C W _ _ g h1
    exact .of rfl rfl rfl (pe_ng o.v) fun _ => pt_vl (pe_ng o.v) fun _ => rfl
  · split at h
    · rename_i ht
      obtain ⟨a', h1, rfl⟩ := map_none h
      have o := hr X c C W _ _ g h1
      exact .of rfl rfl rfl (pe_nt o.v) fun _ => pt_nt (o.pt ht)
    · cases h
  · obtain ⟨q1, q2, q3⟩ := cBO_ok (pos := by assumption) hr g _ h
    exact .of rfl (cBO_fr h) q1 q2 fun _ => q3.pt
  · exact cCmp1_ok hr hn g h
  · split at h
    · rename_i h1 h2 h3
      cases h
      have o := hr X c C W _ _ g h1
      have o2 := hr X c C W _ _ g h2
      have o3 := hr X c C W _ _ g h3
      exact .of rfl rfl rfl (pe_ch g.un (marks2 (hn _ _ _ h3).1) o.v o2.v o3.v) fun _ => pt_ch g.un (marks2 (hn _ _ _ h3).1) o.v o2.v o3.v
    · cases h
  · split at h
    · rename_i ht
      split at h
      · rename_i h1 h2 h3
        cases h
        have o := hr X c C W _ _ g h1
        have o2 := hr X c C W _ _ g h2
        have o3 := hr X c C W _ _ g h3
        exact .of rfl rfl rfl (pe_if (o.pt ht) o2.v o3.v) fun h => by cases h
      · cases h
    · cases h
  · exact cCall_ok hr g h
  · exact cMeth_ok hr g h
  · exact cSub_ok hr hn g h
  · split at h
    · rename_i h1
      split at h
      · rename_i hl
        cases h
        obtain ⟨q1, q2⟩ := cEs_ok hr g h1
        exact .val rfl rfl (fun fr => pe_ls q1 (of_decide_eq_true hl)) fun _ => rfl
      · cases h
    · cases h
  · split at h
    · rename_i h1
      split at h
      · rename_i hl
        cases h
        obtain ⟨q1, q2⟩ := cEs_ok hr g h1
        exact .of rfl rfl rfl (pe_tp q1 (of_decide_eq_true hl)) fun _ => pt_vl (pe_tp q1 (of_decide_eq_true hl)) fun _ => rfl
      · cases h
    · cases h
  · obtain ⟨own, wi, gg, tt, te, P⟩ := cLc_ok hr hn g h
    exact ⟨rfl, fun fr _ => P.pe g fr, fun _ => pt_vl (P.pe g false) fun _ => rfl, P.nb⟩
  · cases h
theorem stepE_no : RecNo (stepE rec) := by
  intro c e e' h
  cases e <;> first | exact ⟨rfl, rfl⟩ | (unfold stepE at h; cases h)
theorem cE_ok : ∀ n : Nat, RecOk (cE n) cx cv ∧ RecNo (cE n)
  | 0 => ⟨fun _ _ _ _ _ _ _ h => (by cases h), fun _ _ _ h => (by cases h)⟩
  | n + 1 => ⟨stepE_ok (cE_ok n).1 (cE_ok n).2, stepE_no⟩
end
end BT
namespace BT
open PySem PySem.Spec PyProof.Rows L2
section
variable {X : Cx} {c : CC} {C : Calls} {W : WX} {cx : CXT} {cv : String → Value}
variable {a b d e tg v : Expr} {a' b' d' e' : IE} {pos p : Pos} {n : Nat}
theorem eE (g : Good X c C W cx cv) (h : cE n c e = some e') : Bun X C W e e' := (cE_ok n).1 X c C W e e' g h
theorem sw_none (h : isComp e = false) (t : Option Expr) (l : Nat) (env : PySem.Env) : swapsWith e t l env = pure false := by
  cases e <;> first | (unfold swapsWith; rfl) | cases h
theorem swS_none (h : isComp e = false) (l : Nat) (env : PySem.Env) : swapsWithSole [tg] e l env = pure false := sw_none h _ _ _
theorem asg1 (h : nst tg = true) (env : PySem.Env) : (assignEach [tg] env).map (·.2) = [assign tg env] := (asg_of (es := []) h).1
theorem blockK {env : PySem.Env} {sc : Scope} (h : env.scope = sc) (k : sc.kind = .function) : env.blockKind = .function := by
  unfold Env.blockKind
  rw [h, k]
  rfl
theorem swOf_ok {env : PySem.Env} {ts vs : List Expr} {k k2 : Nat} {p p2 : Pos} {r : Option (List Str)} (kf : env.scope.kind = .function) (hs : swOf env.scope ts vs = some r) : swappedStores [.Tuple ts k p] (.Tuple vs k2 p2) env = pure r := by
  have hb := blockK (env := env) rfl kf
  unfold swOf at hs
  unfold swappedStores
  simp only [hb]
  by_cases h1 : (!(ts.length == 2 || ts.length == 3) || vs.length != ts.length) = true
  · rw [if_pos h1] at hs
    cases hs
    have : (!(ts.length == 2 || ts.length == 3) || vs.length != ts.length || ScopeKind.function != ScopeKind.function) = true := by rw [h1]; rfl
    rw [if_pos this]
  · rw [if_neg h1] at hs
    have h1' : ¬ (!(ts.length == 2 || ts.length == 3) || vs.length != ts.length || ScopeKind.function != ScopeKind.function) = true := by
      rw [Bool.or_eq_true]
      exact fun q => q.elim h1 fun z => by cases z
    rw [if_neg h1']
    show (if vs.any starB = true then pure none else if ((swNames env.scope ts).length != ts.length || (swNames env.scope ts).eraseDups.length != (swNames env.scope ts).length) = true then pure none
      else if vs.all (foldedForSure 8) = true then pure none else _) = _
    by_cases h2 : vs.any starB = true
    · rw [if_pos h2] at hs ⊢
      cases hs
      rfl
    · rw [if_neg h2] at hs ⊢
      by_cases h3 : ((swNames env.scope ts).length != ts.length || (swNames env.scope ts).eraseDups.length != (swNames env.scope ts).length) = true
      · rw [if_pos h3] at hs ⊢
        cases hs
        rfl
      · rw [if_neg h3] at hs ⊢
        by_cases h4 : vs.all (foldedForSure 8) = true
        · rw [if_pos h4] at hs ⊢
          cases hs
          rfl
        · rw [if_neg h4] at hs ⊢
          by_cases h5 : vs.all (constantsAlone 8) = true
          · rw [if_pos h5] at hs
            cases hs
          · rw [if_neg h5] at hs
            cases hs
            rw [if_neg h5]
            rfl
theorem swOf_names {env : PySem.Env} {ts vs : List Expr} {ns : List Str} (h : swOf env.scope ts vs = some (some ns)) : ns = swNames env.scope ts ∧ (swNames env.scope ts).length = ts.length := by
  unfold swOf at h
  split at h
  · cases h
  · split at h
    · cases h
    · split at h
      · cases h
      · rename_i h3
        split at h
        · cases h
        · split at h
          · cases h
          · cases h
            refine ⟨rfl, ?_⟩
            rw [Bool.or_eq_true, not_or] at h3
            simpa using h3.1
theorem nmIx_ok (g : Good X c C W cx cv) {x : Str} {i : Nat} (h : nmIx c e = some (x, i)) : ∃ p, e = .Name x p ∧ PG X e (gName i) ∧ X.N[i]? = some x ∧ Loc X.env.scope x ∧ (X.fn x = true ∨ X.env.scope.names.lookup x = some .local) := by
  unfold nmIx at h
  split at h
  · split at h
    · rename_i hs
      obtain ⟨i', hi, h2⟩ := map_none h
      cases h2
      exact ⟨_, rfl, g.name hi hs⟩
    · cases h
  · cases h
/-- the swapped stores of two names, of three -/
theorem swN2 {sc : Scope} {x y : Str} {px py : Pos} (h : (swNames sc [.Name x px, .Name y py]).length = 2) : swNames sc [.Name x px, .Name y py] = [x, y] ∧ sc.names.lookup x = some .local ∧ sc.names.lookup y = some .local := by
  unfold swNames at h ⊢
  simp only [List.filterMap_cons, List.filterMap_nil] at h ⊢
  split at h
  · rename_i h1
    split at h <;> simp at h
  · rename_i q1 h1
    split at h
    · simp at h
    · rename_i q2 h2
      split at h1
      · rename_i g1
        split at h2
        · rename_i g2
          cases h1
          cases h2
          simp only [Bool.and_eq_true, beq_iff_eq] at g1 g2
          refine ⟨?_, g1.1, g2.1⟩
          simp [g1, g2]
        · cases h2
      · cases h1

theorem swN3 {sc : Scope} {x y z : Str} {px py pz : Pos} (h : (swNames sc [.Name x px, .Name y py, .Name z pz]).length = 3) : swNames sc [.Name x px, .Name y py, .Name z pz] = [x, y, z] ∧ sc.names.lookup x = some .local ∧ sc.names.lookup y = some .local ∧ sc.names.lookup z = some .local := by
  unfold swNames at h ⊢
  simp only [List.filterMap_cons, List.filterMap_nil] at h ⊢
  split at h
  · rename_i h1
    split at h
    · split at h <;> simp at h
    · split at h <;> simp at h
  · rename_i q1 h1
    split at h
    · split at h <;> simp at h
    · rename_i q2 h2
      split at h
      · simp at h
      · rename_i q3 h3
        split at h1
        · rename_i g1
          split at h2
          · rename_i g2
            split at h3
            · rename_i g3
              cases h1
              cases h2
              cases h3
              simp only [Bool.and_eq_true, beq_iff_eq] at g1 g2 g3
              refine ⟨?_, g1.1, g2.1, g3.1⟩
              simp [g1, g2, g3]
            · cases h3
          · cases h2
        · cases h1
theorem cE_lc {elt : Expr} {gs : List Comprehension} {scope : Scope} (h : cE n c (.ListComp elt gs scope pos) = some e') : ∃ tg iter ifs m, gs = [⟨tg, iter, ifs, 0⟩] ∧ cLc (cE m) c elt tg iter ifs scope = some e' := by
  cases n with
  | zero => cases h
  | succ m =>
    have h : stepE (cE m) c (.ListComp elt gs scope pos) = some e' := h
    unfold stepE at h
    split at h <;> first | (rename_i q; cases q; done) | (cases h; done) | skip
    rename_i q
    cases q
    exact ⟨_, _, _, m, rfl, h⟩
theorem as_name (g : Good X c C W cx cv) {x : Str} {i : Nat} {px : Pos} (hx : nmIx c (.Name x px) = some (x, i)) (h : cE n c v = some e') : PS X (.Assign [.Name x px] v pos) (EX X C W (.asg i e')) := by
  obtain ⟨p', e, hg, hN, hl, hf⟩ := nmIx_ok g hx
  have nd : X.N.Nodup := by rw [g.N]; exact g.nd
  have plain : (swapsWith v (some (.Name x px)) pos.line X.env = pure false) → PS X (.Assign [.Name x px] v pos) (EX X C W (.asg i e')) := fun hs =>
    ps_as (fun te he => ps_set nd hN hl he hs hf) ((eE g h).pe _ id)
  cases hv : isComp v with
  | false => exact plain (sw_none hv _ _ _)
  | true =>
    cases v with
    | ListComp elt gs scope p2 =>
      cases hB : (X.env.blockKind == .function && X.env.kindOf x == some .local && px.line == p2.line && !(scope.names.any fun (n, k) => n == x && (k == .local || k == .cell))) with
      | false => exact plain (by show pure _ = _; exact congrArg pure hB)
      | true =>
        obtain ⟨tg, iter, ifs, m, rfl, hlc⟩ := cE_lc h
        obtain ⟨own, wi, gg, tt, te, P⟩ := cLc_ok (cE_ok (cx := cx) (cv := cv) m).1 (cE_ok (cx := cx) (cv := cv) m).2 g hlc
        have hloc : X.env.scope.names.lookup x = some .local := by
          simp only [Bool.and_eq_true, beq_iff_eq] at hB
          exact hB.1.1.2
        exact ps_asLc (ps_setLc g.calm nd hN hloc (by show pure _ = _; exact congrArg pure hB) P.hi P.ok P.hg P.ht P.he P.hs) fun σ H Q q => P.rd _ σ H Q q
    | SetComp => cases n <;> cases h
    | DictComp => cases n <;> cases h
    | _ => cases hv
theorem nst_E (g : Good X c C W cx cv) (h : cE n c e = some e') : nst e = true := (eE g h).st
theorem cAsg_ok (g : Good X c C W cx cv) {s' : IS} (h : cAsg n c tg v = some s') : PS X (.Assign [tg] v pos) (EX X C W s') := by
  have nd : X.N.Nodup := by rw [g.N]; exact g.nd
  unfold cAsg at h
  split at h
  · rename_i x px
    split at h
    · rename_i x' i v' h1 h2
      cases h
      obtain ⟨p', e, _⟩ := nmIx_ok g h1
      cases e
      exact as_name g h1 h2
    · cases h
  · rename_i x px ix spos
    split at h
    · cases h
    · rename_i hv
      have hv : isComp v = false := by simpa using hv
      split at h
      · rename_i i x' v' hi h1 h2
        cases h
        have hsl := ((cE_ok (cx := cx) (cv := cv) n).2 c ix x' h1).2
        exact ps_si (g.var hi) (eE g h1).v (eE g h2).v (swS_none hv _ _) rfl (asg1 rfl _) fun _ => by cases ix <;> first | rfl | cases hsl
      · cases h
  · rename_i ts kt pt
    split at h
    · rename_i vs kv pv
      have kf : X.env.scope.kind = .function := by rw [g.sc]; exact g.kind
      split at h
      · rename_i t1 t2 v1 v2
        split at h
        · rename_i x i y j a b r h1 h2 h3 h4 h5
          split at h
          · rename_i hij
            have hij := of_decide_eq_true hij
            cases h
            rw [← g.sc] at h5
            obtain ⟨p1, rfl, g1, n1, l1, f1⟩ := nmIx_ok g h1
            obtain ⟨p2, rfl, g2, n2, l2, f2⟩ := nmIx_ok g h2
            have b1 := eE g h3
            have b2 := eE g h4
            cases r with
            | some ns =>
              obtain ⟨q1, q2⟩ := swOf_names h5
              obtain ⟨q3, q4, q5⟩ := swN2 q2
              have hw := swOf_ok (k := kt) (p := pt) (k2 := kv) (p2 := pv) kf h5
              rw [q1, q3] at hw
              exact ps_as2 (fun ta ha => ps_par g.calm nd n1 n2 hij q4 q5 ha hw (swS_none rfl _ _)) (b1.pe _ id) (b2.pe _ id) (star_of b1.st) (star_of b2.st)
            | none =>
              exact ps_as2t g.calm (swS_none rfl _ _) (swOf_ok kf h5) (asg1 rfl _) g1 g2 rfl rfl rfl rfl (b1.pe _ id) (b2.pe _ id) (star_of b1.st) (star_of b2.st)
          · cases h
        · cases h
      · rename_i t1 t2 t3 v1 v2 v3
        split at h
        · rename_i x i y j z l a b d r h1 h2 h0 h3 h4 h6 h5
          split at h
          · rename_i hij
            obtain ⟨hij, hil, hjl⟩ := of_decide_eq_true hij
            cases h
            rw [← g.sc] at h5
            obtain ⟨p1, rfl, g1, n1, l1, f1⟩ := nmIx_ok g h1
            obtain ⟨p2, rfl, g2, n2, l2, f2⟩ := nmIx_ok g h2
            obtain ⟨p3, rfl, g3, n3, l3, f3⟩ := nmIx_ok g h0
            have b1 := eE g h3
            have b2 := eE g h4
            have b3 := eE g h6
            cases r with
            | some ns =>
              obtain ⟨q1, q2⟩ := swOf_names h5
              obtain ⟨q3, q4, q5, q6⟩ := swN3 q2
              have hw := swOf_ok (k := kt) (p := pt) (k2 := kv) (p2 := pv) kf h5
              rw [q1, q3] at hw
              exact ps_as3 (fun ta ha => ps_par3 g.calm nd n1 n2 n3 hij hil hjl q4 q5 q6 ha hw (swS_none rfl _ _)) b1.v b2.v (b3.pe _ id) (star_of b1.st) (star_of b2.st) (star_of b3.st)
            | none =>
              exact ps_as3t g.calm (swS_none rfl _ _) (swOf_ok kf h5) (asg1 rfl _) g1 g2 g3 rfl rfl rfl rfl rfl b1.v b2.v (b3.pe _ id) (star_of b1.st) (star_of b2.st) (star_of b3.st)
          · cases h
        · cases h
      · cases h
    · split at h
      · cases h
      · rename_i hnt hv
        have hv : isComp v = false := by simpa using hv
        split at h
        · rename_i t v' h1 h2
          cases h
          refine ps_asT (eE g h2).v (cT_ok g h1).1 (swS_none hv _ _) ?_ (asg1 rfl _)
          cases v <;> first | rfl | exact absurd rfl (hnt _ _ _)
        · cases h
  · cases h
end
end BT
namespace BT
open PySem PySem.Spec PyProof.Rows L2
/-- .. at statements -/
structure GoodS (X : Cx) (c : CC) (C : Calls) (W : WX) (cx : CXT) (cv : String → Value) : Prop extends Good X c C W cx cv where
  po : PassesOwn (model X.prog X.w) X.A X.env X.xe
  rs : ∀ c H, ¬ W c H
section
variable {X : Cx} {c : CC} {C : Calls} {W : WX} {cx : CXT} {cv : String → Value}
variable {a b d e tg v : Expr} {a' b' d' e' : IE} {pos p : Pos} {n : Nat} {s' : IS}
theorem cRet_ok (g : Good X c C W cx cv) {fresh : Bool} (h : cRet n c fresh e = some s') : PS X (.Return (some e) pos) (EX X C W s') := by
  unfold cRet at h
  split at h
  · split at h
    · obtain ⟨i, hi, rfl⟩ := map_none h
      exact ps_rtO (g.var hi)
    · obtain ⟨e', he, rfl⟩ := map_none h
      exact ps_rtF ((eE g he).pe _ id)
  · obtain ⟨e', he, rfl⟩ := map_none h
    exact ps_rt (fr := false) (eE g he).v
theorem ex_ok (g : Good X c C W cx cv) (hc : isComp e = false) (h : (cE n c e).map .ex = some s') : PS X (.Expr e pos) (EX X C W s') := by
  obtain ⟨e', he, rfl⟩ := map_none h
  exact ps_ex (sw_none hc _ _ _) (eE g he).v
theorem cEx_ok (g : Good X c C W cx cv) (h : cEx n c e = some s') : PS X (.Expr e pos) (EX X C W s') := by
  unfold cEx at h
  split at h
  · rename_i x px nm apos b cpos
    split at h
    · rename_i en
      subst en
      split at h
      · rename_i hl
        split at h
        · rename_i i b' hi hb
          cases h
          have o := eE g hb
          exact ps_ap (g.var hi) o.v (sw_none rfl _ _ _) rfl (few_one o.st) hl (star_of o.st) rfl
        · cases h
      · cases h
    · exact ex_ok g rfl h
  · split at h
    · cases h
    · rename_i hc
      exact ex_ok g (by simpa using hc) h
def RecSOk (rec : RecS) (X : Cx) (c : CC) (C : Calls) (W : WX) : Prop := ∀ sts s', rec c sts = some s' → PSs X sts (EXs X C W s')
theorem stepS_ok {rec : RecS} (g : GoodS X c C W cx cv) (hr : RecSOk rec X c C W) {st : Stmt} {fresh : Bool} (h : stepS rec n fresh c st = some s') : PS X st (EX X C W s') := by
  have G := g.toGood
  unfold stepS at h
  split at h
  · cases h; exact ps_ps
  · exact cRet_ok G h
  · exact cAsg_ok G h
  · rename_i x px op v pos
    split at h
    · rename_i hs
      split at h
      · rename_i i v' hi hv
        cases h
        obtain ⟨_, hN, hl, hf⟩ := G.name (pos := px) hi hs
        exact ps_au (fun te ti he ho => ps_aug (by rw [G.N]; exact G.nd) hN hl he ho hf) (eE G hv).v
      · cases h
    · cases h
  · exact cEx_ok G h
  · split at h
    · rename_i ht
      split at h
      · rename_i h1 h2 h3
        cases h
        exact ps_ifd ((eE G h1).pt ht) (hr _ _ h2) (hr _ _ h3)
      · cases h
    · cases h
  · split at h
    · rename_i it' pr t b' h1 h2 h3
      split at h
      · rename_i hc
        cases h
        rw [Bool.or_eq_true, Bool.not_eq_true'] at hc
        have tp : pr = true → isTp t = true := fun q => hc.resolve_left (by rw [q]; exact Bool.noConfusion)
        obtain ⟨q1, q2⟩ := cIt_ok (cE_ok (cx := cx) (cv := cv) n).1 (cE_ok (cx := cx) (cv := cv) n).2 G h1
        obtain ⟨q3, q4⟩ := cT_ok G h2
        exact ps_fo g.po G.calm tp (q1 _ fun q => q4 (tp q)) q3 (hr _ _ h3) (fold_of q2 _)
      · cases h
    · cases h
  · split at h
    · rename_i ht
      split at h
      · rename_i h1 h2
        cases h
        exact ps_wh g.po ((eE G h1).pt ht) (hr _ _ h2)
      · cases h
    · cases h
  · cases h; exact ps_rs g.rs
  · cases h
theorem cL_ok {rec : RecS} (g : GoodS X c C W cx cv) (hr : RecSOk rec X c C W) {fresh : Bool} : RecSOk (cL rec n fresh) X c C W
  | [], s', h => by cases h; exact pss_n
  | s :: ss, s', h => by
    unfold cL at h
    split at h
    · rename_i h1 h2
      cases h
      exact pss_c (stepS_ok g hr h1) (cL_ok g hr _ _ h2)
    · cases h
theorem cS_ok (g : GoodS X c C W cx cv) {fresh : Bool} : ∀ m : Nat, RecSOk (cS m n fresh) X c C W
  | 0 => fun _ _ h => by cases h
  | m + 1 => cL_ok g (cS_ok g m)
end

/-! ## a def keeps its promise -/
section
variable {K : PySem.W.Frag}
theorem env_len {fn : Fn} {ds : List D} {s : D} (h : ds.length = fn.ps) (hn : fn.ps + (if fn.inout then 1 else 0) ≤ fn.n) : (envOf fn ds s).length = fn.n := by
  unfold envOf
  cases hi : fn.inout with
  | true =>
    rw [hi] at hn
    simp only [if_true, List.length_append, List.length_map, List.length_replicate, List.length_cons, List.length_nil] at hn ⊢
    omega
  | false =>
    rw [hi] at hn
    simp only [Bool.false_eq_true, if_false, List.length_append, List.length_map, List.length_replicate, List.length_nil] at hn ⊢
    omega
theorem rep_none {m i : Nat} {x : Slot} (h : (List.replicate m Slot.no)[i]? = some x) : x = .no := by
  have := List.mem_of_getElem? h
  exact (List.mem_replicate.mp this).2
theorem map_slot {F : Hp} {ds : List D} {xs : List V} (r : Reps K F ds xs) {i m k : Nat} {x : Slot} (h : ((ds.map Slot.val) ++ List.replicate m Slot.no)[i]? = some x) : x = .no ∨ ∃ d v, x = .val d ∧ (xs.map some ++ List.replicate k none)[i]? = some (some v) ∧ Rep K F d v := by
  have hl := r.length
  by_cases hi : i < ds.length
  · rw [List.getElem?_append_left (by rw [List.length_map]; exact hi), List.getElem?_map] at h
    cases hd : ds[i]? with
    | none => rw [hd] at h; cases h
    | some d =>
      rw [hd] at h
      cases h
      obtain ⟨v, hv, q⟩ := r.get hd
      refine .inr ⟨d, v, rfl, ?_, q⟩
      rw [List.getElem?_append_left (by rw [List.length_map, hl]; exact hi), List.getElem?_map, hv]
      rfl
  · rw [List.getElem?_append_right (by rw [List.length_map]; omega)] at h
    exact .inl (rep_none h)
theorem start_R {fn : Fn} {F H : Hp} {ds : List D} {s : D} {ex : Option Addr} {xs vs : List V} {N : List Str} (sf : Same F H) (r : Reps K F ds xs) (hl : ds.length = fn.ps) (hn : fn.ps + (if fn.inout then 1 else 0) ≤ fn.n) (hN : N.length = fn.n)
    (hx : if fn.inout = true then ∃ a, ex = some a ∧ vs = .ref a :: xs ∧ Own K F H s a ∧ F a = none else ex = none ∧ vs = xs ∧ s = .none) : R K ⟨F, H, ex⟩ F (envOf fn ds s) (L2.start N vs) H := by
  have hel := env_len (s := s) hl hn
  have xl := r.length
  cases hi : fn.inout with
  | false =>
    rw [hi, if_neg Bool.false_ne_true] at hx
    obtain ⟨rfl, rfl, rfl⟩ := hx
    have he : envOf fn ds .none = ds.map Slot.val ++ List.replicate (fn.n - ds.length) Slot.no := by
      unfold envOf
      rw [hi]
      simp
    have get : ∀ (i : Nat) (x : Slot), (envOf fn ds .none)[i]? = some x → x = .no ∨ ∃ d v, x = .val d ∧ (L2.start N vs)[i]? = some (some v) ∧ Rep K F d v := fun i x h => by
      rw [he] at h
      exact map_slot r h
    refine ⟨sf, Same.refl F, fun b o e => rfl, fun b o e ne => e, fun b o e => ⟨o, e⟩, (fun a e => by cases e), ?_, fun i d e => ?_, fun i x d e e2 => ?_, fun i j x y d e' a h1 h2 h3 h4 h5 h6 => ?_⟩
    · rw [hel]
      unfold L2.start
      rw [List.length_append, List.length_map, List.length_replicate, xl, hN]
      rw [hi] at hn
      simp only [Bool.false_eq_true, if_false] at hn
      omega
    · rcases get i _ e with q | ⟨d', v, q, h1, h2⟩
      · cases q
      · cases q; exact ⟨v, h1, h2⟩
    · rcases get i _ e with q | ⟨d', v, q, h1, h2⟩
      · subst q; cases e2
      · subst q; cases e2
    · rcases get i _ h1 with q | ⟨d', v, q, _⟩
      · subst q; cases h3
      · subst q; cases h3
  | true =>
    rw [hi, if_pos rfl] at hx
    obtain ⟨a, rfl, rfl, ow, fa⟩ := hx
    have he : envOf fn ds s = .inp s :: (ds.map Slot.val ++ List.replicate (fn.n - ds.length - 1) Slot.no) := by
      unfold envOf
      rw [hi]
      simp
    have hs : L2.start N (.ref a :: xs) = some (.ref a) :: (xs.map some ++ List.replicate (N.length - (xs.length + 1)) none) := rfl
    have get : ∀ (i : Nat) (x : Slot), (envOf fn ds s)[i]? = some x → (i = 0 ∧ x = .inp s) ∨ x = .no ∨ ∃ d v, x = .val d ∧ (L2.start N (.ref a :: xs))[i]? = some (some v) ∧ Rep K F d v := fun i x h => by
      rw [he] at h
      cases i with
      | zero => cases h; exact .inl ⟨rfl, rfl⟩
      | succ i =>
        rw [List.getElem?_cons_succ] at h
        refine .inr ((map_slot (k := N.length - (xs.length + 1)) r h).imp id fun ⟨d, v, e1, e2, e3⟩ => ⟨d, v, e1, ?_, e3⟩)
        rw [hs, List.getElem?_cons_succ]
        exact e2
    obtain ⟨oa, hoa⟩ := ow.some
    refine ⟨sf, Same.refl F, fun b o e => rfl, fun b o e ne => e, fun b o e => ⟨o, e⟩, (fun b e => by cases e; exact ⟨oa, hoa⟩), ?_, fun i d e => ?_, fun i x d e e2 => ?_, fun i j x y d e' b h1 h2 h3 h4 h5 h6 => ?_⟩
    · rw [hel]
      unfold L2.start
      rw [List.length_append, List.length_map, List.length_replicate, List.length_cons, xl, hN]
      rw [hi] at hn
      simp only [if_true] at hn
      omega
    · rcases get i _ e with ⟨_, q⟩ | q | ⟨d', v, q, h1, h2⟩
      · cases q
      · cases q
      · cases q; exact ⟨v, h1, h2⟩
    · rcases get i _ e with ⟨rfl, q⟩ | q | ⟨d', v, q, h1, h2⟩
      · subst q
        cases e2
        exact ⟨a, rfl, ow, fa, rfl⟩
      · subst q; cases e2
      · subst q; cases e2
    · rcases get i _ h1 with ⟨rfl, q⟩ | q | ⟨d', v, q, _⟩
      · rcases get j _ h2 with ⟨rfl, q⟩ | q | ⟨d', v, q, _⟩
        · rfl
        · subst q; cases h4
        · subst q; cases h4
      · subst q; cases h3
      · subst q; cases h3
/-- a run's end, told from the caller's side -/
theorem end_E {fn : Fn} {F H F' H' : Hp} {ex : Option Addr} {env : Env} {σ : L2.St} {s' : D} (r : R K ⟨F, H, ex⟩ F' env σ H') (hs : selfOf fn env = some s') (hx : ex.isSome = true → fn.inout = true) : CallE K F H ex s' F' H' := by
  refine ⟨r.f0, r.fh, fun b o e ne => r.g b o e ne, fun b o e => r.nw b o e, fun a e => ?_⟩
  subst e
  have hi := hx rfl
  unfold selfOf at hs
  rw [hi, if_pos rfl] at hs
  split at hs
  · rename_i s h0
    cases hs
    obtain ⟨a', e1, q, _, z⟩ := r.ow 0 _ s' (slot_get h0 fun z => nomatch z) rfl
    cases z
    exact q
  · cases hs
/-- the body's reading gives the promise -/
theorem body_ok {fn : Fn} {C : Calls} {cv : String → Value} {N : List Str} {vs : List V} {H : Hp} {Q : VK} {E : XK} (hn : fn.ps + (if fn.inout then 1 else 0) ≤ fn.n) (hN : N.length = fn.n)
    (h : spC K cv fn.inout fn.fresh fn.ps (runFn C fn) vs H Q E) : tS K (fun c H => E (cv c) .none H) (execs C fn.body) { nx := fun _ H' => Q .non H', rt := Q } (L2.start N vs) H := by
  obtain ⟨F, ds, s, ex, xs, sf, rr, hl, hx, hm⟩ := h
  have r := start_R (N := N) sf rr hl hn hN hx
  have hex : ex.isSome = true → fn.inout = true := fun q => by
    cases hi : fn.inout with
    | true => rfl
    | false =>
      rw [hi, if_neg Bool.false_ne_true] at hx
      rw [hx.1] at q
      cases q
  refine ⟨⟨F, H, ex⟩, F, _, r, ?_⟩
  unfold runFn at hm
  rw [if_pos hl] at hm
  cases h1 : execs C fn.body (envOf fn ds s) with
  | ok f e =>
    rw [h1] at hm
    simp only at hm
    cases h2 : selfOf fn e with
    | none => rw [h2] at hm; exact hm.elim
    | some s' =>
      rw [h2] at hm
      cases f with
      | next =>
        simp only at hm
        intro F' σ' H' s1 r1
        cases hf : fn.fresh with
        | true => rw [hf, if_pos rfl] at hm; exact hm.elim
        | false =>
          rw [hf, if_neg Bool.false_ne_true] at hm
          exact hm F' H' .non (end_E r1 h2 hex) (by unfold CallV; rw [if_neg Bool.false_ne_true]; exact .non)
      | ret o d =>
        simp only at hm
        intro F' σ' H' v s1 r1 rv
        by_cases ho : (o == fn.fresh) = true
        · rw [if_pos ho] at hm
          have ho : o = fn.fresh := eq_of_beq ho
          refine hm F' H' v (end_E r1 h2 hex) ?_
          unfold CallV
          unfold RV at rv
          rw [← ho]
          cases o with
          | true =>
            rw [if_pos rfl] at rv ⊢
            obtain ⟨p, rfl, f⟩ := rv
            exact ⟨p, rfl, f.ow, f.nf, f.n0⟩
          | false =>
            rw [if_neg Bool.false_ne_true] at rv ⊢
            exact rv
        · rw [if_neg ho] at hm; exact hm.elim
  | exc c e =>
    rw [h1] at hm
    simp only at hm
    cases h2 : selfOf fn e with
    | none => rw [h2] at hm; exact hm.elim
    | some s' =>
      rw [h2] at hm
      exact fun F' σ' H' s1 r1 => hm F' H' (end_E r1 h2 hex)
  | stuck => rw [h1] at hm; exact hm.elim
end
end BT
namespace BT
open PySem PySem.Spec PyProof.Rows L2
def ccOf (N : List Str) (st : Stmt) (fs : List FI) (ks : List (Str × D)) : CC := ⟨N, defScope st, fun _ => true, fs, ks⟩
/-- a def of the text and its small form -/
structure FnW (K : PySem.W.Frag) (mg : Str → Option Value) (T : Tab) (fs : List FI) (ks : List (Str × D)) (q : FI) : Prop where
  ex : ∃ fa fd st qual N ps fn, FunD K q.x qual (defArgs st) (defBody st) (defScope st) [] [] fa fd ∧ mg q.x = some (.ref fa) ∧ Binds K fd ps [] ∧ FnScope N ps (defScope st) ∧ T q.key = some fn ∧ fn.inout = q.inout ∧ fn.fresh = q.fresh ∧ fn.ps = q.n ∧
    ps.length = fn.ps + (if fn.inout then 1 else 0) ∧ N.length = fn.n ∧ fn.ps + (if fn.inout then 1 else 0) ≤ fn.n ∧ cS 12 24 fn.fresh (ccOf N st fs ks) (defBody st) = some fn.body
structure Wd (K : PySem.W.Frag) (mg : Str → Option Value) (T : Tab) (fs : List FI) (ks : List (Str × D)) : Prop where
  bt : ∀ x ∈ bnl, mg x = none
  kk : ∀ x d, ks.lookup x = some d → isL d = false ∧ ∃ u v, mg x = some u ∧ RelV v u ∧ ∀ F, Rep K F d v
  ff : ∀ q ∈ fs, FnW K mg T fs ks q
def cv0 : String → Value := fun _ => .none
def sp0 (K : PySem.W.Frag) (inout fresh : Bool) (n : Nat) (m : List D → D → CR) : Sp := fun vs H Q _ => spC K cv0 inout fresh n m vs H Q fun _ _ _ => False
section
variable {P : Program} {w : World} {K : PySem.W.Frag} {mg : Str → Option Value} {base : Heap} {T : Tab} {fs : List FI} {ks : List (Str × D)}
theorem body_W {fn : Fn} {C : Calls} {N : List Str} {vs : List V} {H : Hp} {Q : VK} {W : WX} (hW : ∀ c H, ¬ W c H) (hn : fn.ps + (if fn.inout then 1 else 0) ≤ fn.n) (hN : N.length = fn.n)
    (h : spC K cv0 fn.inout fn.fresh fn.ps (runFn C fn) vs H Q fun _ _ _ => False) : tS K W0 (execs C fn.body) { nx := fun _ H' => Q .non H', rt := Q } (L2.start N vs) H := body_ok (cv := cv0) hn hN h
/-- all defs at a depth -/
def AllFn (P : Program) (w : World) (K : PySem.W.Frag) (mg : Str → Option Value) (base : Heap) (T : Tab) (fs : List FI) (k : Nat) : Prop :=
  ∀ q ∈ fs, ∃ fa fd ps, mg q.x = some (.ref fa) ∧ PySem.W.keepIn K (.ref fa) = true ∧ Binds K fd ps [] ∧ FnOk P w K mg base L2.CX0 k fa fd ps (sp0 K q.inout q.fresh q.n (callk T k q.key))
theorem fn_step (wd : Wd K mg T fs ks) {k : Nat} (ih : AllFn P w K mg base T fs k) {fa : Addr} {fd : FuncData} {x qual : Str} {st : Stmt} {N ps : List Str} {fn : Fn} {key : String} (F : FunD K x qual (defArgs st) (defBody st) (defScope st) [] [] fa fd) (S : FnScope N ps (defScope st))
    (hT : T key = some fn) (h4 : ps.length = fn.ps + (if fn.inout then 1 else 0)) (h5 : N.length = fn.n) (h6 : fn.ps + (if fn.inout then 1 else 0) ≤ fn.n) (h7 : cS 12 24 fn.fresh (ccOf N st fs ks) (defBody st) = some fn.body) :
    FnOk P w K mg base L2.CX0 (k + 1) fa fd ps (sp0 K fn.inout fn.fresh fn.ps (callk T (k + 1) key)) := by
  refine FunD.ok F S (fun vs H Q E h => spC_len h4 vs H Q _ h) fun cdv A outer s H vs Q E hr hsp => ?_
  have hrun : callk T (k + 1) key = runFn (callk T k) fn := by
    funext ds s
    show (match T key with | some fn => runFn (callk T k) fn ds s | none => .stuck) = _
    rw [hT]
  unfold sp0 at hsp
  rw [hrun] at hsp
  refine ⟨_, PSs.nox (cS_ok (X := (cxOf L2.CX0 P w K mg base N qual (defScope st) fa cdv A outer s H E).nox) (c := ccOf N st fs ks) (C := callk T k) (W := W0) (cx := L2.CX0) (cv := cv0) ?_ 12 _ _ h7), body_W (W := W0) (fun _ _ z => z) h6 h5 hsp⟩
  exact {
    N := rfl
    nd := S.nd
    calm := rfl
    sc := rfl
    kind := S.kind
    fn := fun _ _ => rfl
    un := hr.units
    bt := wd.bt
    ks := wd.kk
    fs := fun q2 hq2 => by
      obtain ⟨fa2, fd2, ps2, m2, k2, b2, fo⟩ := ih q2 hq2
      exact ⟨k, fa2, fd2, ps2, _, fo, fun W' hW' vs H Q z => spC_mono z fun c d H ⟨_, c', _, hh⟩ => hW' c' H hh, hr, m2, k2, b2⟩
    px := fun _ _ _ _ _ _ _ h => h.elim
    pb := fun X' _ _ _ _ _ _ _ _ _ h => h.elim
    po := PassesOwn.never
    rs := fun _ _ z => z }
theorem all_fn (wd : Wd K mg T fs ks) : ∀ k : Nat, AllFn P w K mg base T fs k
  | 0 => fun q hq => by
    obtain ⟨fa, fd, st, qual, N, ps, fn, F, hm, hb, S, hT, h1, h2, h3, h4, h5, h6, h7⟩ := (wd.ff q hq).ex
    refine ⟨fa, fd, ps, hm, F.kp, hb, ⟨fun vs H Q E h => spC_len (by rw [h4, h1, h3]) vs H Q _ h, fun A outer s H args us vs Q E _ _ _ _ h => ?_⟩⟩
    obtain ⟨_, _, _, _, _, _, _, _, _, hm⟩ := h
    exact hm.elim
  | k + 1 => fun q hq => by
    obtain ⟨fa, fd, st, qual, N, ps, fn, F, hm, hb, S, hT, h1, h2, h3, h4, h5, h6, h7⟩ := (wd.ff q hq).ex
    have g := fn_step (P := P) (w := w) (base := base) wd (all_fn wd k) F S hT h4 h5 h6 h7
    rw [h1, h2, h3] at g
    exact ⟨fa, fd, ps, hm, F.kp, hb, g⟩
theorem lookup_mem {x : Str} {d : D} : ∀ {l : List (Str × D)}, l.lookup x = some d → (x, d) ∈ l
  | [], h => by cases h
  | (y, e) :: l, h => by
    rw [List.lookup_cons] at h
    cases hxy : (x == y) with
    | true =>
      rw [hxy] at h
      cases h
      rw [eq_of_beq hxy]
      exact List.mem_cons_self ..
    | false =>
      rw [hxy] at h
      exact List.mem_cons_of_mem _ (lookup_mem h)
theorem kk_of {l : List (Str × D)} {p : Str → D → Prop} (h : ∀ q ∈ l, p q.1 q.2) (x : Str) (d : D) (e : l.lookup x = some d) : p x d := h (x, d) (lookup_mem e)
theorem all_c {α : Type} {p : α → Prop} {a : α} {l : List α} (h : p a) (t : ∀ q ∈ l, p q) : ∀ q ∈ a :: l, p q := fun q hq => by
  rcases List.mem_cons.mp hq with rfl | hq
  · exact h
  · exact t q hq
theorem all_n {α : Type} {p : α → Prop} : ∀ q ∈ ([] : List α), p q := fun q hq => nomatch hq
theorem lst_of {H : Hp} {a : Addr} {xs : List V} (h : SqL K H a xs) (hl : xs.length ≤ sizeLine) : LstAt K H a xs := by
  rcases h with (e | ⟨o, e⟩) | ⟨o, its, n, e, c, d, d2, z, r⟩
  · exact ⟨hl, .inl e⟩
  · exact ⟨hl, .inr (.inl ⟨o, e⟩)⟩
  · exact ⟨hl, .inr (.inr ⟨o, its, n, e, c, d, d2, z, r⟩)⟩
theorem law_sp {H : Hp} {a : Addr} {ns : List Int} {m : List D → D → CR} {E : XK} (hS : SqL K H a (ns.map V.int)) (hl : ns.length ≤ 63) (h : m [.list (ns.map PyData.int)] .none = .ok (.bool true) .none) :
    sp0 K false false 1 m [.ref a] H (fun v _ => v = .bl true) E := by
  refine ⟨H, [.list (ns.map PyData.int)], .none, none, [.ref a], Same.refl H, .cons (.lst (lst_of hS (by rw [List.length_map, sizeLine_eq]; omega)) Reps.ints) .nil, rfl, ?_, ?_⟩
  · rw [if_neg Bool.false_ne_true]; exact ⟨rfl, rfl, rfl⟩
  · rw [h]
    intro F' H' v _ q
    unfold CallV at q
    rw [if_neg Bool.false_ne_true] at q
    exact q.bl_
theorem k_int {x : Str} {i : Int} (h : ∃ t, mg x = some (.int i t)) : isL (.int i) = false ∧ ∃ u v, mg x = some u ∧ RelV v u ∧ ∀ F, Rep K F (.int i) v := by
  obtain ⟨t, h⟩ := h
  exact ⟨rfl, _, .int i, h, ⟨t, rfl⟩, fun F => .int i⟩
end
end BT
namespace BT
open PySem
/-! ## plain lemmas on the small language -/
section
variable {C : Calls} {t : Tg} {vs : List Nat}
theorem wipeE_get {e e' : Env} (h : wipeE e' vs = wipeE e vs) (e0 : Env) (hl : e'.length = e.length) : backE e0 e' vs = backE e0 e vs := by
  refine List.ext_getElem? fun i => ?_
  by_cases hi : i ∈ vs
  · have key : ∀ (e : Env) (vs : List Nat), i ∈ vs → (backE e0 e vs)[i]? = if i < e.length then some (slot e0 i) else none := by
      intro e vs
      induction vs with
      | nil => intro h; cases h
      | cons v vs ih =>
        intro h
        unfold backE
        rw [List.getElem?_set, backE_len]
        by_cases hv : v = i
        · rw [if_pos hv, hv]
        · rw [if_neg hv]
          rcases List.mem_cons.mp h with z | h
          · exact absurd z.symm hv
          · exact ih h
    rw [key e' vs hi, key e vs hi, hl]
  · rw [backE_out hi, backE_out hi, ← wipeE_out (e := e') hi, h, wipeE_out hi]
theorem backE_self (e : Env) : ∀ vs : List Nat, backE e e vs = e
  | [] => rfl
  | v :: vs => by
    unfold backE
    rw [backE_self e vs]
    refine List.ext_getElem? fun i => ?_
    rw [List.getElem?_set]
    by_cases h : v = i
    · subst h
      rw [if_pos rfl]
      by_cases hl : v < e.length
      · rw [if_pos hl]
        unfold slot
        rw [List.getD_eq_getElem?_getD, List.getElem?_eq_getElem hl]
        rfl
      · rw [if_neg hl, List.getElem?_eq_none (by omega)]
    · rw [if_neg h]
theorem lcGo_inv {f : Env → Res (Option D)} (I : Nat → List D → Env → Prop) (xs : List D) (h : ∀ (i : Nat) (hi : i < xs.length) acc e, I i acc e → ∃ e1 r e2, bindT t xs[i] (wipeE e vs) = some e1 ∧ f e1 = .ok r e2 ∧ I (i + 1) (acc ++ r.toList) e2) :
    ∀ e, I 0 [] e → ∃ ys e', lcGo f t vs xs e = .ok ys e' ∧ I xs.length ys e' := by
  have gen : ∀ (n i : Nat) acc e, i + n = xs.length → I i acc e → ∃ ys e', lcGo f t vs (xs.drop i) e = .ok ys e' ∧ I xs.length (acc ++ ys) e' := by
    intro n
    induction n with
    | zero =>
      intro i acc e hi hI
      have hi : i = xs.length := by omega
      rw [List.drop_eq_nil_of_le (by omega)]
      exact ⟨[], e, rfl, by rw [List.append_nil]; exact hi ▸ hI⟩
    | succ n ih =>
      intro i acc e hi hI
      have hlt : i < xs.length := by omega
      obtain ⟨e1, r, e2, h1, h2, h3⟩ := h i hlt acc e hI
      obtain ⟨ys, e', h4, h5⟩ := ih (i + 1) _ e2 (by omega) h3
      rw [List.drop_eq_getElem_cons hlt]
      unfold lcGo
      rw [h1]
      simp only [h2, h4]
      cases r with
      | none => exact ⟨ys, e', rfl, by simpa using h5⟩
      | some y => exact ⟨y :: ys, e', rfl, by simpa using h5⟩
  intro e hI
  obtain ⟨ys, e', h1, h2⟩ := gen xs.length 0 [] e (by omega) hI
  exact ⟨ys, e', by simpa using h1, by simpa using h2⟩
theorem lcGo_pure {f : Env → Res (Option D)} (g : D → Option D) (e : Env) : ∀ xs : List D, (∀ x ∈ xs, ∃ e1 e2, bindT t x (wipeE e vs) = some e1 ∧ f e1 = .ok (g x) e2 ∧ wipeE e2 vs = wipeE e vs ∧ e2.length = e.length) →
    ∀ e0, wipeE e0 vs = wipeE e vs → e0.length = e.length → ∃ e', lcGo f t vs xs e0 = .ok (xs.filterMap g) e' ∧ wipeE e' vs = wipeE e vs ∧ e'.length = e.length
  | [], _, e0, h0, hl => ⟨e0, rfl, h0, hl⟩
  | x :: xs, h, e0, h0, hl => by
    obtain ⟨e1, e2, h1, h2, h3, h4⟩ := h x (List.mem_cons_self ..)
    obtain ⟨e', h5, h6, h7⟩ := lcGo_pure g e xs (fun y hy => h y (List.mem_cons_of_mem _ hy)) e2 h3 h4
    unfold lcGo
    rw [h0, h1]
    simp only [h2, h5]
    refine ⟨e', ?_, h6, h7⟩
    cases hg : g x with
    | none => simp [List.filterMap_cons, hg]
    | some y => simp [List.filterMap_cons, hg]
theorem lcEnd_pure {f : Env → Res (Option D)} (g : D → Option D) (e : Env) (xs : List D) (h : ∀ x ∈ xs, ∃ e1 e2, bindT t x (wipeE e vs) = some e1 ∧ f e1 = .ok (g x) e2 ∧ wipeE e2 vs = wipeE e vs ∧ e2.length = e.length) :
    lcEnd vs e (lcGo f t vs xs e) = .ok (.list (xs.filterMap g)) e := by
  obtain ⟨e', h1, h2, h3⟩ := lcGo_pure g e xs h e rfl rfl
  rw [h1]
  show Res.ok _ (backE e e' vs) = _
  rw [wipeE_get h2 e h3, backE_self]
/-- a comprehension as one step -/
def evT (C : Calls) (x : IE) : Env → Res (Option D) := fun e => match ev C x e with | .ok y e' => .ok (some y) e' | _ => .stuck
def evF (C : Calls) (x c : IE) : Env → Res (Option D) := fun e => match ev C c e with
        | .ok (.bool true) e2 => match ev C x e2 with | .ok y e' => .ok (some y) e' | _ => .stuck
        | .ok (.bool false) e2 => .ok none e2
        | _ => .stuck
def lcRun (vs : List Nat) (t : Tg) (r : Res (List D)) (f : Env → Res (Option D)) : Res D :=
  match r with
  | .ok xs e1 => if noOwn e1 vs && isLong xs then lcEnd vs e1 (lcGo f t vs xs e1) else .stuck
  | .exc c e1 => .exc c e1
  | .stuck => .stuck
theorem ev_lc {x : IE} {it : It} {e : Env} : ev C (.lc vs x t it) e = lcRun vs t (evIt C it e) (evT C x) := by simp only [ev]; rfl
theorem ev_lcf {x c : IE} {it : It} {e : Env} : ev C (.lcf vs x t it c) e = lcRun vs t (evIt C it e) (evF C x c) := by simp only [ev]; rfl
/-- [x' for .. in ..], x' a function of the item -/
theorem lc_map {x' : IE} {e1 : Env} {xs : List D} (g : D → D) (hno : noOwn e1 vs = true) (hl : xs.length ≤ big)
    (h : ∀ x ∈ xs, ∃ e2 e3, bindT t x (wipeE e1 vs) = some e2 ∧ ev C x' e2 = .ok (g x) e3 ∧ wipeE e3 vs = wipeE e1 vs ∧ e3.length = e1.length) : lcRun vs t (.ok xs e1) (evT C x') = .ok (.list (xs.map g)) e1 := by
  simp only [lcRun, hno, isLong, decide_eq_true hl, Bool.and_self, if_true]
  rw [lcEnd_pure (fun x => some (g x)) e1 xs fun x hx => ?_, List.filterMap_eq_map' (f := g)]
  · obtain ⟨e2, e3, h1, h2, h3, h4⟩ := h x hx
    exact ⟨e2, e3, h1, by simp only [evT, h2], h3, h4⟩
/-- [x' for .. in .. if c'] -/
theorem lcf_filter {x' c' : IE} {e1 : Env} {xs : List D} (p : D → Bool) (g : D → D) (hno : noOwn e1 vs = true) (hl : xs.length ≤ big)
    (h : ∀ x ∈ xs, ∃ e2 e3, bindT t x (wipeE e1 vs) = some e2 ∧ ev C c' e2 = .ok (.bool (p x)) e3 ∧ (p x = false → wipeE e3 vs = wipeE e1 vs ∧ e3.length = e1.length) ∧ (p x = true → ∃ e4, ev C x' e3 = .ok (g x) e4 ∧ wipeE e4 vs = wipeE e1 vs ∧ e4.length = e1.length)) :
    lcRun vs t (.ok xs e1) (evF C x' c') = .ok (.list ((xs.filter p).map g)) e1 := by
  simp only [lcRun, hno, isLong, decide_eq_true hl, Bool.and_self, if_true]
  rw [lcEnd_pure (fun x => if p x = true then some (g x) else none) e1 xs fun x hx => ?_]
  · congr 2
    clear h hl
    induction xs with
    | nil => rfl
    | cons x xs ih =>
      rw [List.filterMap_cons, List.filter_cons]
      cases hp : p x <;> simp [ih]
  · obtain ⟨e2, e3, h1, h2, h3, h4⟩ := h x hx
    cases hp : p x with
    | false => exact ⟨e2, e3, h1, by simp [evF, h2, hp], h3 hp⟩
    | true =>
      obtain ⟨e4, h5, h6⟩ := h4 hp
      exact ⟨e2, e4, h1, by simp [evF, h2, hp, h5], h6⟩
/-- a comprehension whose turns change the places -/
theorem lc_inv {x' : IE} {e1 : Env} (I : Nat → List D → Env → Prop) (xs : List D) (hno : noOwn e1 vs = true) (hl : xs.length ≤ big) (h0 : I 0 [] e1)
    (h : ∀ (i : Nat) (hi : i < xs.length) acc e, I i acc e → ∃ e2 y e3, bindT t xs[i] (wipeE e vs) = some e2 ∧ ev C x' e2 = .ok y e3 ∧ I (i + 1) (acc ++ [y]) e3) :
    ∃ ys e3, lcRun vs t (.ok xs e1) (evT C x') = .ok (.list ys) (backE e1 e3 vs) ∧ I xs.length ys e3 := by
  obtain ⟨ys, e', h1, h2⟩ := lcGo_inv (f := evT C x') I xs (fun i hi acc e hI => by
    obtain ⟨e2, y, e3, a, b, c⟩ := h i hi acc e hI
    exact ⟨e2, some y, e3, a, by simp only [evT, b], c⟩) e1 h0
  refine ⟨ys, e', ?_, h2⟩
  simp only [lcRun, hno, isLong, decide_eq_true hl, Bool.and_self, if_true, h1]
  rfl
theorem lcf_inv {x' c' : IE} {e1 : Env} (I : Nat → List D → Env → Prop) (xs : List D) (hno : noOwn e1 vs = true) (hl : xs.length ≤ big) (h0 : I 0 [] e1)
    (h : ∀ (i : Nat) (hi : i < xs.length) acc e, I i acc e → ∃ e2 b e3, bindT t xs[i] (wipeE e vs) = some e2 ∧ ev C c' e2 = .ok (.bool b) e3 ∧ (b = false → I (i + 1) acc e3) ∧ (b = true → ∃ y e4, ev C x' e3 = .ok y e4 ∧ I (i + 1) (acc ++ [y]) e4)) :
    ∃ ys e3, lcRun vs t (.ok xs e1) (evF C x' c') = .ok (.list ys) (backE e1 e3 vs) ∧ I xs.length ys e3 := by
  obtain ⟨ys, e', h1, h2⟩ := lcGo_inv (f := evF C x' c') I xs (fun i hi acc e hI => by
    obtain ⟨e2, b, e3, h1, h2, h3, h4⟩ := h i hi acc e hI
    cases b with
    | false => exact ⟨e2, none, e3, h1, by simp only [evF, h2], by simpa using h3 rfl⟩
    | true =>
      obtain ⟨y, e4, h5, h6⟩ := h4 rfl
      exact ⟨e2, some y, e4, h1, by simp only [evF, h2, h5], h6⟩) e1 h0
  refine ⟨ys, e', ?_, h2⟩
  simp only [lcRun, hno, isLong, decide_eq_true hl, Bool.and_self, if_true, h1]
  rfl
/-- loops as one step -/
def bodyF (C : Calls) (b : ISs) : Env → Res Fl := fun e => execs C b e
def condF (C : Calls) (c : IE) : Env → Res D := fun e => ev C c e
def forRun (t : Tg) (r : Res (List D)) (body : Env → Res Fl) : Res Fl :=
  match r with
  | .ok xs e1 => forGo t body xs e1
  | .exc c e1 => .exc c e1
  | .stuck => .stuck
def whileRun (c : Env → Res D) (body : Env → Res Fl) (e : Env) : Res Fl := whileGo c body fuel e
theorem ex_for {it : It} {b : ISs} {e : Env} : exec C (.for_ t it b) e = forRun t (evIt C it e) (bodyF C b) := by simp only [exec]; rfl
theorem ex_while {c : IE} {b : ISs} {e : Env} : exec C (.while_ c b) e = whileRun (condF C c) (bodyF C b) e := by simp only [exec]; rfl
theorem ex_c {s : IS} {ss : ISs} {e e1 : Env} (h : exec C s e = .ok .next e1) : execs C (.cons s ss) e = execs C ss e1 := by
  show (match exec C s e with | .ok .next e1 => execs C ss e1 | r => r) = _
  rw [h]
theorem ex_n {e : Env} : execs C .nil e = .ok .next e := rfl
theorem for_inv {body : Env → Res Fl} (I : Nat → Env → Prop) (xs : List D) (h : ∀ (i : Nat) (hi : i < xs.length) e, I i e → ∃ e1 e2, bindT t xs[i] e = some e1 ∧ body e1 = .ok .next e2 ∧ I (i + 1) e2) :
    ∀ e, I 0 e → ∃ e', forGo t body xs e = .ok .next e' ∧ I xs.length e' := by
  have gen : ∀ (n i : Nat) e, i + n = xs.length → I i e → ∃ e', forGo t body (xs.drop i) e = .ok .next e' ∧ I xs.length e' := by
    intro n
    induction n with
    | zero =>
      intro i e hi hI
      have hi : i = xs.length := by omega
      rw [List.drop_eq_nil_of_le (by omega)]
      exact ⟨e, rfl, hi ▸ hI⟩
    | succ n ih =>
      intro i e hi hI
      have hlt : i < xs.length := by omega
      obtain ⟨e1, e2, h1, h2, h3⟩ := h i hlt e hI
      obtain ⟨e', h4, h5⟩ := ih (i + 1) e2 (by omega) h3
      rw [List.drop_eq_getElem_cons hlt]
      unfold forGo
      rw [h1]
      simp only [h2]
      exact ⟨e', h4, h5⟩
  intro e hI
  obtain ⟨e', h1, h2⟩ := gen xs.length 0 e (by omega) hI
  exact ⟨e', by simpa using h1, h2⟩
end
def iL (ns : List Int) : D := .list (ns.map .int)
def iT (ns : List Int) : D := .tuple (ns.map .int)
theorem items_l {xs : List D} : items? (.list xs) = some xs := rfl
theorem items_t {xs : List D} : items? (.tuple xs) = some xs := rfl
theorem items_iT {ns : List Int} : items? (iT ns) = some (ns.map PyData.int) := rfl
theorem bools?_of {α : Type} (l : List α) (f : α → Bool) : bools? (l.map fun x => PyData.bool (f x)) = some (l.map f) := by
  induction l with
  | nil => rfl
  | cons a l ih => simp [bools?, ih]
theorem callk_s {T : Tab} {k : Nat} {f : String} {fn : Fn} {ds : List D} {s : D} (h : T f = some fn) : callk T (k + 1) f ds s = runFn (callk T k) fn ds s := by
  show (match T f with | some fn => runFn (callk T k) fn ds s | none => .stuck) = _
  rw [h]
end BT
namespace BT
open PySem
def b_law_source : ISs := (.cons (.if_ (.cmp .GtE (.b 0) (.bin .Pow (.k (.int (10))) (.k (.int (18))))) (.cons (.retF (.lst (.cons (.bin .Sub (.b 0) (.bin .Pow (.k (.int (10))) (.k (.int (18))))) (.cons (.bin .Mod (.b 0) (.k (.int (2147483579)))) (.cons (.v 1) .nil))))) .nil) .nil) (.cons (.retF (.lst (.cons (.k (.int (0))) (.cons (.bin .Mod (.b 0) (.k (.int (2147483579)))) (.cons (.v 1) .nil))))) .nil))
def b_law_draw : ISs := (.cons (.if_ (.cmp .Gt (.ix (.b 0) (.k (.int (0)))) (.k (.int (1)))) (.cons (.asg 2 (.bin .Mod (.ix (.b 0) (.k (.int (0)))) (.b 1))) (.cons (.setI 0 (.k (.int (0))) (.bin .FloorDiv (.ix (.b 0) (.k (.int (0)))) (.b 1))) (.cons (.ret (.v 2)) .nil))) .nil) (.cons (.setI 0 (.k (.int (2))) (.bin .Add (.ix (.b 0) (.k (.int (2)))) (.k (.int (1))))) (.cons (.asg 3 (.bin .Mod (.bin .Pow (.bin .Add (.ix (.b 0) (.k (.int (1)))) (.bin .Mult (.k (.int (15485867))) (.ix (.b 0) (.k (.int (2)))))) (.k (.int (5)))) (.k (.int (2147483647))))) (.cons (.asg 2 (.bin .FloorDiv (.bin .Mod (.bin .Pow (.bin .Add (.b 3) (.bin .Mult (.k (.int (7919))) (.ix (.b 0) (.k (.int (2)))))) (.k (.int (3)))) (.k (.int (2147483629)))) (.k (.int (32))))) (.cons (.ret (.bin .Mod (.b 2) (.b 1))) .nil)))))
def b_law_choice : ISs := (.cons (.ret (.ix (.b 1) (.callS "_law_draw" 0 (.cons (.pr .len (.b 1)) .nil)))) .nil)
def b_law_kind : ISs := (.cons (.if_ (.isi (.b 0) [.bool]) (.cons (.ret (.k (.int (1)))) .nil) .nil) (.cons (.if_ (.isi (.b 0) [.int]) (.cons (.ret (.k (.int (2)))) .nil) .nil) (.cons (.if_ (.isi (.b 0) [.str]) (.cons (.ret (.k (.int (3)))) .nil) .nil) (.cons (.if_ (.isi (.b 0) [.list]) (.cons (.ret (.k (.int (4)))) .nil) .nil) (.cons (.ret (.ite (.isi (.b 0) [.tuple]) (.k (.int (5))) (.k (.int (6))))) .nil)))))
def b_law_equal : ISs := (.cons (.if_ (.cmp .NotEq (.call "_law_kind" (.cons (.v 0) .nil)) (.call "_law_kind" (.cons (.v 1) .nil))) (.cons (.ret (.k (.bool false))) .nil) .nil) (.cons (.if_ (.and (.cmp .Gt (.call "_law_kind" (.cons (.v 0) .nil)) (.k (.int (3)))) (.cmp .Lt (.call "_law_kind" (.cons (.v 0) .nil)) (.k (.int (6))))) (.cons (.if_ (.cmp .NotEq (.pr .len (.b 0)) (.pr .len (.b 1))) (.cons (.ret (.k (.bool false))) .nil) .nil) (.cons (.ret (.cmp .Eq (.lcf [2, 3] (.v 2) (.p2 (.v 2) (.v 3)) (.enum (.v 0)) (.not (.call "_law_equal" (.cons (.v 3) (.cons (.ix (.b 1) (.b 2)) .nil))))) (.lst .nil))) .nil)) .nil) (.cons (.ret (.cmp .Eq (.b 0) (.b 1))) .nil)))
def b_law_list : ISs := (.cons (.asg2 2 3 (.lst .nil) (.callS "_law_choice" 0 (.cons (.lst (.cons (.k (.int (13))) (.cons (.k (.int (100))) .nil))) .nil))) (.cons (.for_ (.v 4) (.r1 (.bin .Add (.k (.int (1))) (.callS "_law_draw" 0 (.cons (.v 1) .nil)))) (.cons (.asg 5 (.callS "_law_draw" 0 (.cons (.v 3) .nil))) (.cons (.if_ (.cmp .NotIn (.b 5) (.b 2)) (.cons (.app 2 (.v 5)) .nil) .nil) .nil))) (.cons (.ret (.pr .tuple (.b 2))) .nil)))
def f_law_source : Fn := ⟨2, 2, false, true, b_law_source⟩
def f_law_draw : Fn := ⟨1, 4, true, false, b_law_draw⟩
def f_law_choice : Fn := ⟨1, 2, true, false, b_law_choice⟩
def f_law_kind : Fn := ⟨1, 1, false, false, b_law_kind⟩
def f_law_equal : Fn := ⟨2, 4, false, false, b_law_equal⟩
def f_law_list : Fn := ⟨1, 6, true, false, b_law_list⟩
/-- the state of the draws: at most n made -/
def Src (n : Nat) (s : D) : Prop := ∃ x y z : Int, s = .list [.int x, .int y, .int z] ∧ 0 ≤ y ∧ y < 2147483648 ∧ 0 ≤ z ∧ z ≤ n
theorem Src.mono {n m : Nat} {s : D} (h : Src n s) (l : n ≤ m) : Src m s := by
  obtain ⟨x, y, z, e, a, b, c, d⟩ := h
  exact ⟨x, y, z, e, a, b, c, by omega⟩
section
variable {T : Tab} {k : Nat}
theorem source_ok (hT : T "_law_source" = some f_law_source) (cell turn : Int) (h0 : 0 ≤ turn) (h1 : turn ≤ 1000) : ∃ xs, callk T (k + 1) "_law_source" [.int cell, .int turn] .none = .ok (.list xs) .none ∧ Src 1000 (.list xs) := by
  rw [callk_s hT]
  have m1 : 0 ≤ cell % 2147483579 := Int.emod_nonneg _ (by decide)
  have m2 : cell % 2147483579 < 2147483579 := Int.emod_lt_of_pos _ (by decide)
  by_cases h : (1000000000000000000 : Int) ≤ cell
  · refine ⟨[.int (cell - 1000000000000000000), .int (cell % 2147483579), .int turn], ?_, ⟨_, _, _, rfl, m1, by omega, h0, h1⟩⟩
    simp [f_law_source, b_law_source, ↓ev_lc, ↓ev_lcf, ↓ex_for, ↓ex_while, forRun, runFn, execs, exec, ev, evs, evIt, envOf, selfOf, slot, rd, rr, ofO, dcmp, dbin, dpr, dix, dsl, freshE, isTy, mkSlot, reOwn, ownD, int?, bool?, items_l, items_t, items_iT, atD, isNone, -List.map_map, h]
  · refine ⟨[.int 0, .int (cell % 2147483579), .int turn], ?_, ⟨_, _, _, rfl, m1, by omega, h0, h1⟩⟩
    simp [f_law_source, b_law_source, ↓ev_lc, ↓ev_lcf, ↓ex_for, ↓ex_while, forRun, runFn, execs, exec, ev, evs, evIt, envOf, selfOf, slot, rd, rr, ofO, dcmp, dbin, dpr, dix, dsl, freshE, isTy, mkSlot, reOwn, ownD, int?, bool?, items_l, items_t, items_iT, atD, isNone, -List.map_map, h]
theorem draw_ok (hT : T "_law_draw" = some f_law_draw) {s : D} {n : Nat} (hs : Src n s) {size : Int} (h0 : 0 < size) (h1 : size < 1000000000) (hn : n < 1000000000) :
    ∃ d s', callk T (k + 1) "_law_draw" [.int size] s = .ok (.int d) s' ∧ 0 ≤ d ∧ d < size ∧ Src (n + 1) s' := by
  obtain ⟨x, y, z, rfl, hy0, hy1, hz0, hz1⟩ := hs
  rw [callk_s hT]
  have dv : dvOk size = true := by
    unfold dvOk
    simp only [Bool.and_eq_true, Bool.or_eq_true, decide_eq_true_eq]
    exact ⟨h0, .inl (by omega)⟩
  by_cases h : 1 < x
  · refine ⟨x % size, .list [.int (x / size), .int y, .int z], ?_, Int.emod_nonneg _ (by omega), Int.emod_lt_of_pos _ h0, ⟨_, _, _, rfl, hy0, hy1, hz0, by omega⟩⟩
    simp [f_law_draw, b_law_draw, ↓ev_lc, ↓ev_lcf, ↓ex_for, ↓ex_while, forRun, runFn, execs, exec, ev, evs, evIt, envOf, selfOf, slot, rd, rr, ofO, dcmp, dbin, dpr, dix, dsl, freshE, isTy, mkSlot, reOwn, ownD, int?, bool?, items_l, items_t, items_iT, atD, isNone, -List.map_map, h, h0, dv]
  · have m5 : 0 ≤ (y + 15485867 * (z + 1)) ^ 5 % 2147483647 := Int.emod_nonneg _ (by decide)
    have m6 : (y + 15485867 * (z + 1)) ^ 5 % 2147483647 < 2147483647 := Int.emod_lt_of_pos _ (by decide)
    have p1 : (y + 15485867 * (z + 1)).natAbs < 18446744073709551616 := by omega
    have p2 : ((y + 15485867 * (z + 1)) ^ 5 % 2147483647 + 7919 * (z + 1)).natAbs < 18446744073709551616 := by omega
    have mo1 : mulOk 15485867 (z + 1) = true := by unfold mulOk; simp
    have mo2 : mulOk 7919 (z + 1) = true := by unfold mulOk; simp
    have dv2 : dvOk 32 = true := by decide
    refine ⟨((y + 15485867 * (z + 1)) ^ 5 % 2147483647 + 7919 * (z + 1)) ^ 3 % 2147483629 / 32 % size, .list [.int x, .int y, .int (z + 1)], ?_, Int.emod_nonneg _ (by omega), Int.emod_lt_of_pos _ h0, ⟨_, _, _, rfl, hy0, hy1, by omega, by omega⟩⟩
    simp [f_law_draw, b_law_draw, ↓ev_lc, ↓ev_lcf, ↓ex_for, ↓ex_while, forRun, runFn, execs, exec, ev, evs, evIt, envOf, selfOf, slot, rd, rr, ofO, dcmp, dbin, dpr, dix, dsl, freshE, isTy, mkSlot, reOwn, ownD, int?, bool?, items_l, items_t, items_iT, atD, isNone, -List.map_map, h, h0, dv, mo1, mo2, p1, p2, dv2]

theorem choice_ok (hD : T "_law_draw" = some f_law_draw) (hT : T "_law_choice" = some f_law_choice) {s : D} {n : Nat} (hs : Src n s) {xs : List D} (h0 : xs ≠ []) (h1 : xs.length < 1000000000) (hn : n < 1000000000) :
    ∃ d s', callk T (k + 2) "_law_choice" [.list xs] s = .ok d s' ∧ d ∈ xs ∧ Src (n + 1) s' := by
  have hp : 0 < xs.length := List.length_pos_iff.mpr h0
  obtain ⟨d, s', hd, d0, d1, hs'⟩ := draw_ok (k := k) hD hs (size := (xs.length : Int)) (by omega) (by omega) hn
  have hlt : d.toNat < xs.length := by omega
  refine ⟨xs[d.toNat], s', ?_, List.getElem_mem hlt, hs'⟩
  rw [callk_s hT]
  simp [f_law_choice, b_law_choice, ↓ev_lc, ↓ev_lcf, ↓ex_for, ↓ex_while, forRun, runFn, execs, exec, ev, evs, evIt, envOf, selfOf, slot, rd, rr, ofO, dcmp, dbin, dpr, dix, dsl, freshE, isTy, mkSlot, reOwn, ownD, int?, bool?, items_l, items_t, items_iT, atD, isNone, -List.map_map, hd, d0, d1, List.getElem?_eq_getElem hlt]
def kindN : D → Int
  | .bool _ => 1
  | .int _ => 2
  | .str _ => 3
  | .list _ => 4
  | .tuple _ => 5
  | _ => 6
theorem kind_ok (hT : T "_law_kind" = some f_law_kind) (d : D) : callk T (k + 1) "_law_kind" [d] .none = .ok (.int (kindN d)) .none := by
  rw [callk_s hT]
  cases d <;> simp [f_law_kind, b_law_kind, ↓ev_lc, ↓ev_lcf, ↓ex_for, ↓ex_while, forRun, runFn, execs, exec, ev, evs, evIt, envOf, selfOf, slot, rd, rr, ofO, dcmp, dbin, dpr, dix, dsl, freshE, isTy, mkSlot, reOwn, ownD, int?, bool?, items_l, items_t, items_iT, atD, isNone, -List.map_map, kindN]

/-- plain data: no dict, of depth at most m, no list too long -/
inductive Pl : Nat → D → Prop
  | non {m : Nat} : Pl m .none
  | bl {m : Nat} (b : Bool) : Pl m (.bool b)
  | int {m : Nat} (i : Int) : Pl m (.int i)
  | str {m : Nat} (x : Str) : Pl m (.str x)
  | lst {m : Nat} {xs : List D} : (∀ x ∈ xs, Pl m x) → xs.length ≤ big → Pl (m + 1) (.list xs)
  | tup {m : Nat} {xs : List D} : (∀ x ∈ xs, Pl m x) → xs.length ≤ big → Pl (m + 1) (.tuple xs)
theorem equal_ok (hK : T "_law_kind" = some f_law_kind) (hT : T "_law_equal" = some f_law_equal) : ∀ (m : Nat) (d : D) (k : Nat), Pl m d → callk T (m + k + 2) "_law_equal" [d, d] .none = .ok (.bool true) .none := by
  intro m
  have leaf : ∀ (k : Nat) (d : D), (kindN d ≤ 3 ∨ 6 ≤ kindN d) → okEq d d = true → PyData.eqv d d = true → callk T (k + 2) "_law_equal" [d, d] .none = .ok (.bool true) .none := fun k d hk h1 h2 => by
    have kd := kind_ok (k := k) hK d
    have h3 : d.plain = true ∧ d.depth ≤ 20 := by
      unfold okEq at h1
      simp only [Bool.and_eq_true, decide_eq_true_eq] at h1
      exact ⟨h1.1.1.1, h1.1.2⟩
    rw [callk_s hT]
    rcases hk with hk | hk
    · have n1 : ¬ (3 < kindN d) := by omega
      simp [f_law_equal, b_law_equal, ↓ev_lc, ↓ev_lcf, ↓ex_for, ↓ex_while, forRun, runFn, execs, exec, ev, evs, evIt, envOf, selfOf, slot, rd, rr, ofO, dcmp, dbin, dpr, dix, dsl, freshE, isTy, mkSlot, reOwn, ownD, int?, bool?, items_l, items_t, items_iT, atD, isNone, -List.map_map, kd, n1, h2, h3, okEq, PyData.plain, PyData.depth, PyData.eqv]
    · have n1 : 3 < kindN d := by omega
      have n2 : ¬ (kindN d < 6) := by omega
      simp [f_law_equal, b_law_equal, ↓ev_lc, ↓ev_lcf, ↓ex_for, ↓ex_while, forRun, runFn, execs, exec, ev, evs, evIt, envOf, selfOf, slot, rd, rr, ofO, dcmp, dbin, dpr, dix, dsl, freshE, isTy, mkSlot, reOwn, ownD, int?, bool?, items_l, items_t, items_iT, atD, isNone, -List.map_map, kd, n1, n2, h2, h3, okEq, PyData.plain, PyData.depth, PyData.eqv]
  induction m with
  | zero =>
    intro d k h
    cases h with
    | non => exact leaf _ _ (.inr (by decide)) (by decide) (by decide)
    | bl b => exact leaf _ _ (.inl (show (1 : Int) ≤ 3 by decide)) (by cases b <;> decide) (by cases b <;> decide)
    | int i => exact leaf _ _ (.inl (show (2 : Int) ≤ 3 by decide)) (by simp [okEq, PyData.plain, PyData.depth]) (by simp [PyData.eqv])
    | str x => exact leaf _ _ (.inl (show (3 : Int) ≤ 3 by decide)) (by simp [okEq, PyData.plain, PyData.depth]) (by simp [PyData.eqv])
  | succ m ih =>
    intro d k h
    have seq : ∀ (xs : List D) (d : D), (d = .list xs ∨ d = .tuple xs) → (∀ x ∈ xs, Pl m x) → xs.length ≤ big → callk T (m + 1 + k + 2) "_law_equal" [d, d] .none = .ok (.bool true) .none := fun xs d hd hx hl => by
      rw [show m + 1 + k + 2 = (m + k + 2) + 1 by omega]
      have kd := kind_ok (T := T) (k := m + k + 1) hK d
      rw [callk_s hT]
      have hlc : lcRun [2, 3] (.p2 (.v 2) (.v 3)) (.ok (xs.zipIdx.map fun p => PyData.tuple [.int (p.2 : Nat), p.1]) [.val d, .val d, .no, .no]) (evF (callk T (m + k + 2)) (.v 2) (.not (.call "_law_equal" (.cons (.v 3) (.cons (.ix (.b 1) (.b 2)) .nil))))) = .ok (.list []) [.val d, .val d, .no, .no] := by
        rw [lcf_filter (fun _ => false) id (by simp [wipeE, bindT, noOwn, ownD, slot]) (by simpa using hl)]
        · simp
        · intro x hxm
          obtain ⟨p, hp, rfl⟩ := List.mem_map.mp hxm
          have hg := List.mem_zipIdx hp
          have h1 : xs[p.2]? = some p.1 := by
            rw [List.mem_zipIdx_iff_getElem?] at hp
            exact hp
          have h2 := ih p.1 k (hx _ (List.mem_of_getElem? h1))
          obtain ⟨h3, h4⟩ := List.getElem?_eq_some_iff.mp h1
          refine ⟨[.val d, .val d, .val (.int (p.2 : Nat)), .val p.1], [.val d, .val d, .val (.int (p.2 : Nat)), .val p.1], by simp [wipeE, bindT, noOwn, ownD, slot], ?_, fun _ => ⟨rfl, rfl⟩, fun h => by cases h⟩
          rcases hd with rfl | rfl <;> simp [↓ev_lc, ↓ev_lcf, ↓ex_for, ↓ex_while, forRun, runFn, execs, exec, ev, evs, evIt, envOf, selfOf, slot, rd, rr, ofO, dcmp, dbin, dpr, dix, dsl, freshE, isTy, mkSlot, reOwn, ownD, int?, bool?, items_l, items_t, items_iT, atD, isNone, -List.map_map, h2, h3, h4]
      rcases hd with rfl | rfl <;> simp [f_law_equal, b_law_equal, ↓ev_lc, ↓ev_lcf, ↓ex_for, ↓ex_while, forRun, runFn, execs, exec, ev, evs, evIt, envOf, selfOf, slot, rd, rr, ofO, dcmp, dbin, dpr, dix, dsl, freshE, isTy, mkSlot, reOwn, ownD, int?, bool?, items_l, items_t, items_iT, atD, isNone, -List.map_map, kd, kindN, hlc, okEq, PyData.plain, PyData.depth, PyData.eqv, PyData.plainAll, PyData.depthAll, PyData.eqvAll]
    cases h with
    | non => exact leaf _ _ (.inr (by decide)) (by decide) (by decide)
    | bl b => exact leaf _ _ (.inl (show (1 : Int) ≤ 3 by decide)) (by cases b <;> decide) (by cases b <;> decide)
    | int i => exact leaf _ _ (.inl (show (2 : Int) ≤ 3 by decide)) (by simp [okEq, PyData.plain, PyData.depth]) (by simp [PyData.eqv])
    | str x => exact leaf _ _ (.inl (show (3 : Int) ≤ 3 by decide)) (by simp [okEq, PyData.plain, PyData.depth]) (by simp [PyData.eqv])
    | lst hx hl => exact seq _ _ (.inl rfl) hx hl
    | tup hx hl => exact seq _ _ (.inr rfl) hx hl
end
end BT
namespace BT
open PySem
def b_is_between : ISs := (.cons (.ret (.and (.isi (.b 0) [.int]) (.and (.not (.isi (.b 0) [.bool])) (.cmp2 .LtE .LtE (.v 1) (.v 0) (.v 2))))) .nil)
def f_is_between : Fn := ⟨3, 3, false, false, b_is_between⟩
def b_is_list : ISs := (.cons (.if_ (.or (.not (.isi (.b 0) [.tuple])) (.not (.cmp2 .LtE .LtE (.k (.int (1))) (.pr .len (.b 0)) (.k (.int (12)))))) (.cons (.ret (.k (.bool false))) .nil) .nil) (.cons (.ret (.and (.pr .all (.lc [1] (.call "is_between" (.cons (.v 1) (.cons (.k (.int (0))) (.cons (.k (.int (99))) .nil)))) (.v 1) (.e (.v 0)))) (.cmp .Eq (.pr .lenset (.b 0)) (.pr .len (.b 0))))) .nil))
def f_is_list : Fn := ⟨1, 2, false, false, b_is_list⟩
def b_check_list : ISs := (.cons (.if_ (.not (.call "is_list" (.cons (.v 0) .nil))) (.cons (.raise "E") .nil) .nil) .nil)
def f_check_list : Fn := ⟨1, 1, false, false, b_check_list⟩
def b_is_selection : ISs := (.cons (.if_ (.or (.not (.isi (.b 1) [.tuple])) (.not (.pr .all (.lc [2] (.call "is_between" (.cons (.v 2) (.cons (.k (.int (0))) (.cons (.k (.int (99))) .nil)))) (.v 2) (.e (.v 1)))))) (.cons (.ret (.k (.bool false))) .nil) .nil) (.cons (.if_ (.not (.pr .all (.lc [2] (.cmp .In (.b 2) (.b 0)) (.v 2) (.e (.v 1))))) (.cons (.ret (.k (.bool false))) .nil) .nil) (.cons (.ret (.pr .all (.lc [3, 4] (.cmp .Lt (.b 3) (.b 4)) (.p2 (.v 3) (.v 4)) (.zip (.v 1) (.sll (.b 1) (.k (.int (1)))))))) .nil)))
def f_is_selection : Fn := ⟨2, 5, false, false, b_is_selection⟩
def b_are_moves : ISs := (.cons (.if_ (.or (.not (.isi (.b 1) [.tuple])) (.cmp .Gt (.pr .len (.b 1)) (.k (.int (30))))) (.cons (.ret (.k (.bool false))) .nil) .nil) (.cons (.ret (.pr .all (.lc [2] (.call "is_selection" (.cons (.v 0) (.cons (.v 2) .nil))) (.v 2) (.e (.v 1))))) .nil))
def f_are_moves : Fn := ⟨2, 3, false, false, b_are_moves⟩
def b_check_moves : ISs := (.cons (.if_ (.not (.call "are_moves" (.cons (.v 0) (.cons (.v 1) .nil)))) (.cons (.raise "E") .nil) .nil) .nil)
def f_check_moves : Fn := ⟨2, 2, false, false, b_check_moves⟩
def b_moved : ISs := (.cons (.asg 2 (.lcf [3] (.v 3) (.v 3) (.e (.v 0)) (.cmp .In (.b 3) (.b 1)))) (.cons (.ret (.pr .tuple (.bin .Add (.b 2) (.lcf [3] (.v 3) (.v 3) (.e (.v 0)) (.cmp .NotIn (.b 3) (.b 1)))))) .nil))
def f_moved : Fn := ⟨2, 4, false, false, b_moved⟩
def b_after : ISs := (.cons (.for_ (.v 2) (.e (.v 1)) (.cons (.asg 0 (.call "moved" (.cons (.v 0) (.cons (.v 2) .nil)))) .nil)) (.cons (.ret (.v 0)) .nil))
def f_after : Fn := ⟨2, 3, false, false, b_after⟩
def b_apply : ISs := (.cons (.ex (.call "check_list" (.cons (.v 0) .nil))) (.cons (.ex (.call "check_moves" (.cons (.v 0) (.cons (.v 1) .nil)))) (.cons (.ret (.call "after" (.cons (.v 0) (.cons (.v 1) .nil)))) .nil)))
def f_apply : Fn := ⟨2, 2, false, false, b_apply⟩
def b_law_selection : ISs := (.cons (.asg 2 (.callS "_law_choice" 0 (.cons (.lst (.cons (.k (.int (2))) (.cons (.k (.int (4))) (.cons (.k (.int (1))) .nil)))) .nil))) (.cons (.ret (.pr .tuple (.pr .sorted (.lcf [3] (.v 3) (.v 3) (.e (.v 1)) (.cmp .Eq (.callS "_law_draw" 0 (.cons (.v 2) .nil)) (.k (.int (0)))))))) .nil))
def f_law_selection : Fn := ⟨1, 4, true, false, b_law_selection⟩
def b_law_some_moves : ISs := (.cons (.ret (.pr .tuple (.lc [3] (.callS "_law_selection" 0 (.cons (.v 1) .nil)) (.v 3) (.r1 (.callS "_law_draw" 0 (.cons (.bin .Add (.b 2) (.k (.int (1)))) .nil)))))) .nil)
def f_law_some_moves : Fn := ⟨2, 4, true, false, b_law_some_moves⟩
def b_law_moved : ISs := (.cons (.asg 2 (.pr .tuple (.lcf [3] (.v 3) (.v 3) (.e (.v 0)) (.cmp .In (.b 3) (.b 1))))) (.cons (.ret (.bin .Add (.b 2) (.pr .tuple (.lcf [3] (.v 3) (.v 3) (.e (.v 0)) (.cmp .NotIn (.b 3) (.b 1)))))) .nil))
def f_law_moved : Fn := ⟨2, 4, false, false, b_law_moved⟩
section
variable {T : Tab} {k : Nat}
theorem between_ok (hT : T "is_between" = some f_is_between) (v a b : Int) : callk T (k + 1) "is_between" [.int v, .int a, .int b] .none = .ok (.bool (decide (a ≤ v) && decide (v ≤ b))) .none := by
  rw [callk_s hT]
  by_cases h : a ≤ v <;> simp [f_is_between, b_is_between, ↓ev_lc, ↓ev_lcf, ↓ex_for, ↓ex_while, forRun, runFn, execs, exec, ev, evs, evIt, envOf, selfOf, slot, rd, rr, ofO, dcmp, dbin, dpr, dix, dsl, freshE, isTy, mkSlot, reOwn, ownD, int?, bool?, items_l, items_t, items_iT, atD, isNone, -List.map_map, h]
def GoodL (vs : List Int) : Prop := 1 ≤ vs.length ∧ vs.length ≤ 12 ∧ (∀ v ∈ vs, 0 ≤ v ∧ v ≤ 99) ∧ vs.Nodup
theorem dd_self : ∀ {ns : List Int}, ns.Nodup → dd ns = ns
  | [], _ => rfl
  | x :: xs, h => by
    have h' := List.nodup_cons.mp h
    unfold dd
    rw [if_neg h'.1, dd_self h'.2]
theorem all_true {α : Type} (l : List α) : bools? (l.map fun _ => PyData.bool true) = some (l.map fun _ => true) := bools?_of l fun _ => true
theorem all_id {α : Type} (l : List α) : (l.map fun _ => true).all id = true := by
  induction l with
  | nil => rfl
  | cons a l ih => simp
theorem islist_ok (hB : T "is_between" = some f_is_between) (hT : T "is_list" = some f_is_list) {vs : List Int} (g : GoodL vs) : callk T (k + 2) "is_list" [iT vs] .none = .ok (.bool true) .none := by
  obtain ⟨g1, g2, g3, g4⟩ := g
  have hlc : lcRun [1] (.v 1) (.ok (vs.map PyData.int) [.val (.tuple (vs.map PyData.int)), .no]) (evT (callk T (k + 1)) (.call "is_between" (.cons (.v 1) (.cons (.k (.int (0))) (.cons (.k (.int (99))) .nil))))) = .ok (.list ((vs.map PyData.int).map fun _ => PyData.bool true)) [.val (.tuple (vs.map PyData.int)), .no] := by
    refine lc_map (fun _ => .bool true) (by simp [wipeE, bindT, noOwn, ownD, slot]) (by rw [List.length_map]; exact Nat.le_trans g2 (by decide)) fun x hx => ?_
    obtain ⟨v, hv, rfl⟩ := List.mem_map.mp hx
    have hb := between_ok (k := k) hB v 0 99
    obtain ⟨h0, h1⟩ := g3 v hv
    exact ⟨[.val (.tuple (vs.map PyData.int)), .val (.int v)], [.val (.tuple (vs.map PyData.int)), .val (.int v)], by simp [wipeE, bindT, noOwn, ownD, slot], by simp [↓ev_lc, ↓ev_lcf, ↓ex_for, ↓ex_while, forRun, runFn, execs, exec, ev, evs, evIt, envOf, selfOf, slot, rd, rr, ofO, dcmp, dbin, dpr, dix, dsl, freshE, isTy, mkSlot, reOwn, ownD, int?, bool?, items_l, items_t, items_iT, atD, isNone, -List.map_map, hb, h0, h1], rfl, rfl⟩
  have e1 : ints? (vs.map PyData.int) = some vs := ints?_map vs
  have hz : vs.length ≤ 4000 := by omega
  rw [callk_s hT]
  have l1 : (1 : Int) ≤ (vs.length : Int) := by omega
  have l2 : (vs.length : Int) ≤ 12 := by omega
  have hb := all_true (vs.map PyData.int)
  have hd := dd_self g4
  have ha := all_id (vs.map PyData.int)
  simp [f_is_list, b_is_list, iT, ↓ev_lc, ↓ev_lcf, ↓ex_for, ↓ex_while, forRun, runFn, execs, exec, ev, evs, evIt, envOf, selfOf, slot, rd, rr, ofO, dcmp, dbin, dpr, dix, dsl, freshE, isTy, mkSlot, reOwn, ownD, int?, bool?, items_l, items_t, items_iT, atD, isNone, -List.map_map, hlc, l1, l2, e1, hz, hb, hd, ha, okEq, PyData.plain, PyData.depth, PyData.eqv]

theorem checklist_ok (hB : T "is_between" = some f_is_between) (hL : T "is_list" = some f_is_list) (hT : T "check_list" = some f_check_list) {vs : List Int} (g : GoodL vs) : callk T (k + 3) "check_list" [iT vs] .none = .ok .none .none := by
  have h := islist_ok (k := k) hB hL g
  rw [callk_s hT]
  simp [f_check_list, b_check_list, ↓ev_lc, ↓ev_lcf, ↓ex_for, ↓ex_while, forRun, runFn, execs, exec, ev, evs, evIt, envOf, selfOf, slot, rd, rr, ofO, dcmp, dbin, dpr, dix, dsl, freshE, isTy, mkSlot, reOwn, ownD, int?, bool?, items_l, items_t, items_iT, atD, isNone, -List.map_map, h]
theorem plain_ints : ∀ vs : List Int, PyData.plainAll (vs.map PyData.int) = true
  | [] => rfl
  | v :: vs => by simp [PyData.plainAll, PyData.plain, plain_ints vs]
theorem depth_ints : ∀ vs : List Int, PyData.depthAll (vs.map PyData.int) ≤ 1
  | [] => by simp [PyData.depthAll]
  | v :: vs => by
    have := depth_ints vs
    simp [PyData.depthAll, PyData.depth]
    try omega
theorem okIn_ints (v : Int) (vs : List Int) : okIn (.int v) (vs.map PyData.int) = true := by
  have h1 := plain_ints vs
  have h2 := depth_ints vs
  unfold okIn
  simp only [Bool.and_eq_true, decide_eq_true_eq]
  refine ⟨⟨⟨by simp [PyData.plain], h1⟩, by simp [PyData.depth]⟩, by omega⟩
theorem any_ints (v : Int) : ∀ vs : List Int, ((vs.map PyData.int).any fun d => PyData.eqv d (.int v)) = decide (v ∈ vs)
  | [] => by simp
  | x :: vs => by
    rw [List.map_cons, List.any_cons, any_ints v vs]
    by_cases h : x = v
    · subst h; simp [PyData.eqv]
    · have h' : ¬ v = x := fun z => h z.symm
      simp [PyData.eqv, h, h']
def GoodSel (vs sel : List Int) : Prop := (∀ v ∈ sel, v ∈ vs) ∧ sel.Pairwise (· < ·)
theorem pair_len {sel : List Int} (h : sel.Pairwise (· < ·)) (hb : ∀ v ∈ sel, 0 ≤ v ∧ v ≤ 99) : sel.length ≤ 100 := by
  have key : ∀ (l : List Int) (a : Int), l.Pairwise (· < ·) → (∀ v ∈ l, a ≤ v ∧ v ≤ 99) → (l.length : Int) ≤ 100 - a ∨ l = [] := by
    intro l
    induction l with
    | nil => intro a _ _; exact .inr rfl
    | cons x l ih =>
      intro a hp hv
      obtain ⟨h1, h2⟩ := List.pairwise_cons.mp hp
      have hx := hv x (List.mem_cons_self ..)
      rcases ih (x + 1) h2 (fun v hv' => ⟨by have := h1 v hv'; omega, (hv v (List.mem_cons_of_mem _ hv')).2⟩) with h | h
      · refine .inl ?_
        rw [List.length_cons]
        omega
      · subst h
        refine .inl ?_
        simp
        omega
  rcases key sel 0 h hb with h | h
  · omega
  · subst h; simp
theorem cut1 (xs : List D) : cutD xs (some 1) none = xs.drop 1 := by
  unfold cutD
  simp only [sIx]
  cases xs with
  | nil => simp
  | cons x xs =>
    simp
theorem zip_pairs {sel : List Int} (h : sel.Pairwise (· < ·)) : ∀ p ∈ ((sel.map PyData.int).zip ((sel.map PyData.int).drop 1)).map (fun p => PyData.tuple [p.1, p.2]), ∃ a b : Int, p = .tuple [.int a, .int b] ∧ a < b := by
  induction sel with
  | nil => intro p hp; simp at hp
  | cons x l ih =>
    obtain ⟨h1, h2⟩ := List.pairwise_cons.mp h
    cases l with
    | nil => intro p hp; simp at hp
    | cons y l =>
      intro p hp
      simp only [List.map_cons, List.drop_succ_cons, List.drop_zero, List.zip_cons_cons, List.mem_cons] at hp
      rcases hp with rfl | hp
      · exact ⟨x, y, rfl, h1 y (List.mem_cons_self ..)⟩
      · exact ih h2 p (by simpa using hp)
theorem issel_ok (hB : T "is_between" = some f_is_between) (hT : T "is_selection" = some f_is_selection) {vs sel : List Int} (g : GoodL vs) (hs : GoodSel vs sel) : callk T (k + 2) "is_selection" [iT vs, iT sel] .none = .ok (.bool true) .none := by
  obtain ⟨g1, g2, g3, g4⟩ := g
  obtain ⟨s1, s2⟩ := hs
  have hb9 : ∀ v ∈ sel, 0 ≤ v ∧ v ≤ 99 := fun v hv => g3 v (s1 v hv)
  have hl := pair_len s2 hb9
  have hbig : sel.length ≤ big := Nat.le_trans hl (by decide)
  have a1 : lcRun [2] (.v 2) (.ok (sel.map PyData.int) [.val (.tuple (vs.map PyData.int)), .val (.tuple (sel.map PyData.int)), .no, .no, .no]) (evT (callk T (k + 1)) (.call "is_between" (.cons (.v 2) (.cons (.k (.int (0))) (.cons (.k (.int (99))) .nil))))) = .ok (.list ((sel.map PyData.int).map fun _ => PyData.bool true)) [.val (.tuple (vs.map PyData.int)), .val (.tuple (sel.map PyData.int)), .no, .no, .no] := by
    refine lc_map (fun _ => .bool true) (by simp [wipeE, bindT, noOwn, ownD, slot]) (by rw [List.length_map]; exact hbig) fun x hx => ?_
    obtain ⟨v, hv, rfl⟩ := List.mem_map.mp hx
    have hb := between_ok (k := k) hB v 0 99
    obtain ⟨h0, h1⟩ := hb9 v hv
    exact ⟨[.val (.tuple (vs.map PyData.int)), .val (.tuple (sel.map PyData.int)), .val (.int v), .no, .no], [.val (.tuple (vs.map PyData.int)), .val (.tuple (sel.map PyData.int)), .val (.int v), .no, .no], by simp [wipeE, bindT, noOwn, ownD, slot], by simp [↓ev_lc, ↓ev_lcf, ↓ex_for, ↓ex_while, forRun, runFn, execs, exec, ev, evs, evIt, envOf, selfOf, slot, rd, rr, ofO, dcmp, dbin, dpr, dix, dsl, freshE, isTy, mkSlot, reOwn, ownD, int?, bool?, items_l, items_t, items_iT, atD, isNone, -List.map_map, hb, h0, h1], rfl, rfl⟩
  have a2 : lcRun [2] (.v 2) (.ok (sel.map PyData.int) [.val (.tuple (vs.map PyData.int)), .val (.tuple (sel.map PyData.int)), .no, .no, .no]) (evT (callk T (k + 1)) (.cmp .In (.b 2) (.b 0))) = .ok (.list ((sel.map PyData.int).map fun _ => PyData.bool true)) [.val (.tuple (vs.map PyData.int)), .val (.tuple (sel.map PyData.int)), .no, .no, .no] := by
    refine lc_map (fun _ => .bool true) (by simp [wipeE, bindT, noOwn, ownD, slot]) (by rw [List.length_map]; exact hbig) fun x hx => ?_
    obtain ⟨v, hv, rfl⟩ := List.mem_map.mp hx
    have o := okIn_ints v vs
    have an := any_ints v vs
    have hm := s1 v hv
    exact ⟨[.val (.tuple (vs.map PyData.int)), .val (.tuple (sel.map PyData.int)), .val (.int v), .no, .no], [.val (.tuple (vs.map PyData.int)), .val (.tuple (sel.map PyData.int)), .val (.int v), .no, .no], by simp [wipeE, bindT, noOwn, ownD, slot], by simp [↓ev_lc, ↓ev_lcf, ↓ex_for, ↓ex_while, forRun, runFn, execs, exec, ev, evs, evIt, envOf, selfOf, slot, rd, rr, ofO, dcmp, dbin, dpr, dix, dsl, freshE, isTy, mkSlot, reOwn, ownD, int?, bool?, items_l, items_t, items_iT, atD, isNone, -List.map_map, o, an, hm, -List.any_map], rfl, rfl⟩
  have a3 : lcRun [3, 4] (.p2 (.v 3) (.v 4)) (.ok (((sel.map PyData.int).zip ((sel.map PyData.int).drop 1)).map (fun p => PyData.tuple [p.1, p.2])) [.val (.tuple (vs.map PyData.int)), .val (.tuple (sel.map PyData.int)), .no, .no, .no]) (evT (callk T (k + 1)) (.cmp .Lt (.b 3) (.b 4))) = .ok (.list ((((sel.map PyData.int).zip ((sel.map PyData.int).drop 1)).map (fun p => PyData.tuple [p.1, p.2])).map fun _ => PyData.bool true)) [.val (.tuple (vs.map PyData.int)), .val (.tuple (sel.map PyData.int)), .no, .no, .no] := by
    refine lc_map (fun _ => .bool true) (by simp [wipeE, bindT, noOwn, ownD, slot]) (by rw [List.length_map, List.length_zip, List.length_map]; omega) fun x hx => ?_
    obtain ⟨a, b, rfl, hab⟩ := zip_pairs s2 x hx
    exact ⟨[.val (.tuple (vs.map PyData.int)), .val (.tuple (sel.map PyData.int)), .no, .val (.int a), .val (.int b)], [.val (.tuple (vs.map PyData.int)), .val (.tuple (sel.map PyData.int)), .no, .val (.int a), .val (.int b)], by simp [wipeE, bindT, noOwn, ownD, slot], by simp [↓ev_lc, ↓ev_lcf, ↓ex_for, ↓ex_while, forRun, runFn, execs, exec, ev, evs, evIt, envOf, selfOf, slot, rd, rr, ofO, dcmp, dbin, dpr, dix, dsl, freshE, isTy, mkSlot, reOwn, ownD, int?, bool?, items_l, items_t, items_iT, atD, isNone, -List.map_map, hab], rfl, rfl⟩
  have b1 := all_true (sel.map PyData.int)
  have c1 := all_id (sel.map PyData.int)
  have b2 := all_true (((sel.map PyData.int).zip ((sel.map PyData.int).drop 1)).map (fun p => PyData.tuple [p.1, p.2]))
  have c2 := all_id (((sel.map PyData.int).zip ((sel.map PyData.int).drop 1)).map (fun p => PyData.tuple [p.1, p.2]))
  have cu := cut1 (sel.map PyData.int)
  rw [callk_s hT]
  simp [f_is_selection, b_is_selection, iT, ↓ev_lc, ↓ev_lcf, ↓ex_for, ↓ex_while, forRun, runFn, execs, exec, ev, evs, evIt, envOf, selfOf, slot, rd, rr, ofO, dcmp, dbin, dpr, dix, dsl, freshE, isTy, mkSlot, reOwn, ownD, int?, bool?, items_l, items_t, items_iT, atD, isNone, -List.map_map, a1, a2, a3, b1, c1, b2, c2, cu, -List.drop_one, -List.map_drop]

def rT (rows : List (List Int)) : List D := rows.map iT
theorem aremoves_ok (hB : T "is_between" = some f_is_between) (hS : T "is_selection" = some f_is_selection) (hT : T "are_moves" = some f_are_moves) {vs : List Int} (g : GoodL vs) {rows : List (List Int)} (hr : ∀ r ∈ rows, GoodSel vs r) (hl : rows.length ≤ 30) :
    callk T (k + 3) "are_moves" [iT vs, .tuple (rT rows)] .none = .ok (.bool true) .none := by
  have a1 : lcRun [2] (.v 2) (.ok (rT rows) [.val (iT vs), .val (.tuple (rT rows)), .no]) (evT (callk T (k + 2)) (.call "is_selection" (.cons (.v 0) (.cons (.v 2) .nil)))) = .ok (.list ((rT rows).map fun _ => PyData.bool true)) [.val (iT vs), .val (.tuple (rT rows)), .no] := by
    refine lc_map (fun _ => .bool true) (by simp [wipeE, bindT, noOwn, ownD, slot]) (by unfold rT; rw [List.length_map]; exact Nat.le_trans hl (by decide)) fun x hx => ?_
    obtain ⟨r, hrm, rfl⟩ := List.mem_map.mp hx
    have h := issel_ok (k := k) hB hS g (hr r hrm)
    exact ⟨[.val (iT vs), .val (.tuple (rT rows)), .val (iT r)], [.val (iT vs), .val (.tuple (rT rows)), .val (iT r)], by simp [wipeE, bindT, noOwn, ownD, slot], by simp [↓ev_lc, ↓ev_lcf, ↓ex_for, ↓ex_while, forRun, runFn, execs, exec, ev, evs, evIt, envOf, selfOf, slot, rd, rr, ofO, dcmp, dbin, dpr, dix, dsl, freshE, isTy, mkSlot, reOwn, ownD, int?, bool?, items_l, items_t, items_iT, atD, isNone, -List.map_map, h], rfl, rfl⟩
  have b1 := all_true (rT rows)
  have c1 := all_id (rT rows)
  have l1 : (rT rows).length = rows.length := List.length_map _
  have l2 : ¬ ((30 : Int) < (rows.length : Int)) := by omega
  rw [callk_s hT]
  simp [f_are_moves, b_are_moves, ↓ev_lc, ↓ev_lcf, ↓ex_for, ↓ex_while, forRun, runFn, execs, exec, ev, evs, evIt, envOf, selfOf, slot, rd, rr, ofO, dcmp, dbin, dpr, dix, dsl, freshE, isTy, mkSlot, reOwn, ownD, int?, bool?, items_l, items_t, items_iT, atD, isNone, -List.map_map, a1, b1, c1, l1, l2]
theorem checkmoves_ok (hB : T "is_between" = some f_is_between) (hS : T "is_selection" = some f_is_selection) (hA : T "are_moves" = some f_are_moves) (hT : T "check_moves" = some f_check_moves) {vs : List Int} (g : GoodL vs) {rows : List (List Int)} (hr : ∀ r ∈ rows, GoodSel vs r) (hl : rows.length ≤ 30) :
    callk T (k + 4) "check_moves" [iT vs, .tuple (rT rows)] .none = .ok .none .none := by
  have h := aremoves_ok (k := k) hB hS hA g hr hl
  rw [callk_s hT]
  simp [f_check_moves, b_check_moves, ↓ev_lc, ↓ev_lcf, ↓ex_for, ↓ex_while, forRun, runFn, execs, exec, ev, evs, evIt, envOf, selfOf, slot, rd, rr, ofO, dcmp, dbin, dpr, dix, dsl, freshE, isTy, mkSlot, reOwn, ownD, int?, bool?, items_l, items_t, items_iT, atD, isNone, -List.map_map, h]
def pMoved (vs sel : List Int) : List Int := vs.filter (fun v => decide (v ∈ sel)) ++ vs.filter (fun v => !decide (v ∈ sel))
def inB (sel : List Int) : D → Bool
  | .int v => decide (v ∈ sel)
  | _ => false
def notB (sel : List Int) : D → Bool
  | .int v => !decide (v ∈ sel)
  | _ => false
theorem filter_ints {p : D → Bool} {q : Int → Bool} (h : ∀ v, p (.int v) = q v) : ∀ vs : List Int, ((vs.map PyData.int).filter p).map id = (vs.filter q).map PyData.int
  | [] => rfl
  | v :: vs => by
    have ih := filter_ints h vs
    rw [List.map_cons, List.filter_cons, List.filter_cons, h v]
    cases q v
    · simpa using ih
    · simp only [if_true, List.map_cons, ih, id]
theorem moved_ok (hT : T "moved" = some f_moved) {vs : List Int} (sel : List Int) (hl : vs.length ≤ 1000) : callk T (k + 1) "moved" [iT vs, iT sel] .none = .ok (iT (pMoved vs sel)) .none := by
  have a1 : lcRun [3] (.v 3) (.ok (vs.map PyData.int) [.val (.tuple (vs.map PyData.int)), .val (.tuple (sel.map PyData.int)), .no, .no]) (evF (callk T k) (.v 3) (.cmp .In (.b 3) (.b 1))) = .ok (.list ((vs.filter fun v => decide (v ∈ sel)).map PyData.int)) [.val (.tuple (vs.map PyData.int)), .val (.tuple (sel.map PyData.int)), .no, .no] := by
    rw [lcf_filter (inB sel) id (by simp [wipeE, bindT, noOwn, ownD, slot]) (by rw [List.length_map]; exact Nat.le_trans hl (by decide)), filter_ints (q := fun v => decide (v ∈ sel)) fun v => rfl]
    intro x hx
    obtain ⟨v, hv, rfl⟩ := List.mem_map.mp hx
    have o := okIn_ints v sel
    have an := any_ints v sel
    exact ⟨[.val (.tuple (vs.map PyData.int)), .val (.tuple (sel.map PyData.int)), .no, .val (.int v)], [.val (.tuple (vs.map PyData.int)), .val (.tuple (sel.map PyData.int)), .no, .val (.int v)], by simp [wipeE, bindT, noOwn, ownD, slot], by simp [↓ev_lc, ↓ev_lcf, ↓ex_for, ↓ex_while, forRun, runFn, execs, exec, ev, evs, evIt, envOf, selfOf, slot, rd, rr, ofO, dcmp, dbin, dpr, dix, dsl, freshE, isTy, mkSlot, reOwn, ownD, int?, bool?, items_l, items_t, items_iT, atD, isNone, -List.map_map, o, an, inB, -List.any_map], fun _ => ⟨rfl, rfl⟩, fun _ => ⟨[.val (.tuple (vs.map PyData.int)), .val (.tuple (sel.map PyData.int)), .no, .val (.int v)], by simp [↓ev_lc, ↓ev_lcf, ↓ex_for, ↓ex_while, forRun, runFn, execs, exec, ev, evs, evIt, envOf, selfOf, slot, rd, rr, ofO, dcmp, dbin, dpr, dix, dsl, freshE, isTy, mkSlot, reOwn, ownD, int?, bool?, items_l, items_t, items_iT, atD, isNone, -List.map_map, id], rfl, rfl⟩⟩
  have a2 : ∀ d : D, lcRun [3] (.v 3) (.ok (vs.map PyData.int) [.val (.tuple (vs.map PyData.int)), .val (.tuple (sel.map PyData.int)), .own d, .no]) (evF (callk T k) (.v 3) (.cmp .NotIn (.b 3) (.b 1))) = .ok (.list ((vs.filter fun v => !decide (v ∈ sel)).map PyData.int)) [.val (.tuple (vs.map PyData.int)), .val (.tuple (sel.map PyData.int)), .own d, .no] := fun d => by
    rw [lcf_filter (notB sel) id (by simp [wipeE, bindT, noOwn, ownD, slot]) (by rw [List.length_map]; exact Nat.le_trans hl (by decide)), filter_ints (q := fun v => !decide (v ∈ sel)) fun v => rfl]
    intro x hx
    obtain ⟨v, hv, rfl⟩ := List.mem_map.mp hx
    have o := okIn_ints v sel
    have an := any_ints v sel
    exact ⟨[.val (.tuple (vs.map PyData.int)), .val (.tuple (sel.map PyData.int)), .own d, .val (.int v)], [.val (.tuple (vs.map PyData.int)), .val (.tuple (sel.map PyData.int)), .own d, .val (.int v)], by simp [wipeE, bindT, noOwn, ownD, slot], by simp [↓ev_lc, ↓ev_lcf, ↓ex_for, ↓ex_while, forRun, runFn, execs, exec, ev, evs, evIt, envOf, selfOf, slot, rd, rr, ofO, dcmp, dbin, dpr, dix, dsl, freshE, isTy, mkSlot, reOwn, ownD, int?, bool?, items_l, items_t, items_iT, atD, isNone, -List.map_map, o, an, notB, -List.any_map], fun _ => ⟨rfl, rfl⟩, fun _ => ⟨[.val (.tuple (vs.map PyData.int)), .val (.tuple (sel.map PyData.int)), .own d, .val (.int v)], by simp [↓ev_lc, ↓ev_lcf, ↓ex_for, ↓ex_while, forRun, runFn, execs, exec, ev, evs, evIt, envOf, selfOf, slot, rd, rr, ofO, dcmp, dbin, dpr, dix, dsl, freshE, isTy, mkSlot, reOwn, ownD, int?, bool?, items_l, items_t, items_iT, atD, isNone, -List.map_map, id], rfl, rfl⟩⟩
  have f1 : (vs.filter fun v => decide (v ∈ sel)).length ≤ vs.length := List.length_filter_le _ _
  have f2 : (vs.filter fun v => !decide (v ∈ sel)).length ≤ vs.length := List.length_filter_le _ _
  have lg : isLong ((vs.filter fun v => decide (v ∈ sel)).map PyData.int ++ (vs.filter fun v => !decide (v ∈ sel)).map PyData.int) = true := by
    unfold isLong
    rw [List.length_append, List.length_map, List.length_map]
    exact decide_eq_true (show _ ≤ 1000000 by omega)
  rw [callk_s hT]
  simp [f_moved, b_moved, iT, pMoved, ↓ev_lc, ↓ev_lcf, ↓ex_for, ↓ex_while, forRun, runFn, execs, exec, ev, evs, evIt, envOf, selfOf, slot, rd, rr, ofO, dcmp, dbin, dpr, dix, dsl, freshE, isTy, mkSlot, reOwn, ownD, int?, bool?, items_l, items_t, items_iT, atD, isNone, -List.map_map, a1, a2, lg]
theorem lawmoved_ok (hT : T "_law_moved" = some f_law_moved) {vs : List Int} (sel : List Int) (hl : vs.length ≤ 1000) : callk T (k + 1) "_law_moved" [iT vs, iT sel] .none = .ok (iT (pMoved vs sel)) .none := by
  have a1 : lcRun [3] (.v 3) (.ok (vs.map PyData.int) [.val (.tuple (vs.map PyData.int)), .val (.tuple (sel.map PyData.int)), .no, .no]) (evF (callk T k) (.v 3) (.cmp .In (.b 3) (.b 1))) = .ok (.list ((vs.filter fun v => decide (v ∈ sel)).map PyData.int)) [.val (.tuple (vs.map PyData.int)), .val (.tuple (sel.map PyData.int)), .no, .no] := by
    rw [lcf_filter (inB sel) id (by simp [wipeE, bindT, noOwn, ownD, slot]) (by rw [List.length_map]; exact Nat.le_trans hl (by decide)), filter_ints (q := fun v => decide (v ∈ sel)) fun v => rfl]
    intro x hx
    obtain ⟨v, hv, rfl⟩ := List.mem_map.mp hx
    have o := okIn_ints v sel
    have an := any_ints v sel
    exact ⟨[.val (.tuple (vs.map PyData.int)), .val (.tuple (sel.map PyData.int)), .no, .val (.int v)], [.val (.tuple (vs.map PyData.int)), .val (.tuple (sel.map PyData.int)), .no, .val (.int v)], by simp [wipeE, bindT, noOwn, ownD, slot], by simp [↓ev_lc, ↓ev_lcf, ↓ex_for, ↓ex_while, forRun, runFn, execs, exec, ev, evs, evIt, envOf, selfOf, slot, rd, rr, ofO, dcmp, dbin, dpr, dix, dsl, freshE, isTy, mkSlot, reOwn, ownD, int?, bool?, items_l, items_t, items_iT, atD, isNone, -List.map_map, o, an, inB, -List.any_map], fun _ => ⟨rfl, rfl⟩, fun _ => ⟨[.val (.tuple (vs.map PyData.int)), .val (.tuple (sel.map PyData.int)), .no, .val (.int v)], by simp [↓ev_lc, ↓ev_lcf, ↓ex_for, ↓ex_while, forRun, runFn, execs, exec, ev, evs, evIt, envOf, selfOf, slot, rd, rr, ofO, dcmp, dbin, dpr, dix, dsl, freshE, isTy, mkSlot, reOwn, ownD, int?, bool?, items_l, items_t, items_iT, atD, isNone, -List.map_map, id], rfl, rfl⟩⟩
  have a2 : ∀ d : D, lcRun [3] (.v 3) (.ok (vs.map PyData.int) [.val (.tuple (vs.map PyData.int)), .val (.tuple (sel.map PyData.int)), .val d, .no]) (evF (callk T k) (.v 3) (.cmp .NotIn (.b 3) (.b 1))) = .ok (.list ((vs.filter fun v => !decide (v ∈ sel)).map PyData.int)) [.val (.tuple (vs.map PyData.int)), .val (.tuple (sel.map PyData.int)), .val d, .no] := fun d => by
    rw [lcf_filter (notB sel) id (by simp [wipeE, bindT, noOwn, ownD, slot]) (by rw [List.length_map]; exact Nat.le_trans hl (by decide)), filter_ints (q := fun v => !decide (v ∈ sel)) fun v => rfl]
    intro x hx
    obtain ⟨v, hv, rfl⟩ := List.mem_map.mp hx
    have o := okIn_ints v sel
    have an := any_ints v sel
    exact ⟨[.val (.tuple (vs.map PyData.int)), .val (.tuple (sel.map PyData.int)), .val d, .val (.int v)], [.val (.tuple (vs.map PyData.int)), .val (.tuple (sel.map PyData.int)), .val d, .val (.int v)], by simp [wipeE, bindT, noOwn, ownD, slot], by simp [↓ev_lc, ↓ev_lcf, ↓ex_for, ↓ex_while, forRun, runFn, execs, exec, ev, evs, evIt, envOf, selfOf, slot, rd, rr, ofO, dcmp, dbin, dpr, dix, dsl, freshE, isTy, mkSlot, reOwn, ownD, int?, bool?, items_l, items_t, items_iT, atD, isNone, -List.map_map, o, an, notB, -List.any_map], fun _ => ⟨rfl, rfl⟩, fun _ => ⟨[.val (.tuple (vs.map PyData.int)), .val (.tuple (sel.map PyData.int)), .val d, .val (.int v)], by simp [↓ev_lc, ↓ev_lcf, ↓ex_for, ↓ex_while, forRun, runFn, execs, exec, ev, evs, evIt, envOf, selfOf, slot, rd, rr, ofO, dcmp, dbin, dpr, dix, dsl, freshE, isTy, mkSlot, reOwn, ownD, int?, bool?, items_l, items_t, items_iT, atD, isNone, -List.map_map, id], rfl, rfl⟩⟩
  have f1 : (vs.filter fun v => decide (v ∈ sel)).length ≤ vs.length := List.length_filter_le _ _
  have f2 : (vs.filter fun v => !decide (v ∈ sel)).length ≤ vs.length := List.length_filter_le _ _
  have lg : isLong ((vs.filter fun v => decide (v ∈ sel)).map PyData.int ++ (vs.filter fun v => !decide (v ∈ sel)).map PyData.int) = true := by
    unfold isLong
    rw [List.length_append, List.length_map, List.length_map]
    exact decide_eq_true (show _ ≤ 1000000 by omega)
  rw [callk_s hT]
  simp [f_law_moved, b_law_moved, iT, pMoved, ↓ev_lc, ↓ev_lcf, ↓ex_for, ↓ex_while, forRun, runFn, execs, exec, ev, evs, evIt, envOf, selfOf, slot, rd, rr, ofO, dcmp, dbin, dpr, dix, dsl, freshE, isTy, mkSlot, reOwn, ownD, int?, bool?, items_l, items_t, items_iT, atD, isNone, -List.map_map, a1, a2, lg]
theorem pMoved_len (vs sel : List Int) : (pMoved vs sel).length = vs.length := by
  unfold pMoved
  rw [List.length_append]
  induction vs with
  | nil => rfl
  | cons v vs ih =>
    rw [List.filter_cons, List.filter_cons]
    by_cases h : v ∈ sel <;> simp [h] <;> omega
theorem after_ok (hM : T "moved" = some f_moved) (hT : T "after" = some f_after) {vs : List Int} (rows : List (List Int)) (hl : vs.length ≤ 1000) : callk T (k + 2) "after" [iT vs, .tuple (rT rows)] .none = .ok (iT (rows.foldl pMoved vs)) .none := by
  obtain ⟨e', h1, h2⟩ := for_inv (t := .v 2) (body := bodyF (callk T (k + 1)) (.cons (.asg 0 (.call "moved" (.cons (.v 0) (.cons (.v 2) .nil)))) .nil))
    (fun i e => ∃ x : Slot, e = [.val (iT ((rows.take i).foldl pMoved vs)), .val (.tuple (rT rows)), x] ∧ ((rows.take i).foldl pMoved vs).length = vs.length) (rT rows) (fun i hi e ⟨x, he, hle⟩ => by
      subst he
      have hi' : i < rows.length := by unfold rT at hi; rwa [List.length_map] at hi
      have hm := moved_ok (k := k) hM (vs := (rows.take i).foldl pMoved vs) rows[i] (by omega)
      refine ⟨[.val (iT ((rows.take i).foldl pMoved vs)), .val (.tuple (rT rows)), .val (iT rows[i])], [.val (iT (pMoved ((rows.take i).foldl pMoved vs) rows[i])), .val (.tuple (rT rows)), .val (iT rows[i])], by simp [bindT, rT], by simp [bodyF, ↓ev_lc, ↓ev_lcf, ↓ex_for, ↓ex_while, forRun, runFn, execs, exec, ev, evs, evIt, envOf, selfOf, slot, rd, rr, ofO, dcmp, dbin, dpr, dix, dsl, freshE, isTy, mkSlot, reOwn, ownD, int?, bool?, items_l, items_t, items_iT, atD, isNone, -List.map_map, hm], .val (iT rows[i]), ?_, ?_⟩
      · rw [List.take_add_one, List.getElem?_eq_getElem hi', List.foldl_append]; rfl
      · rw [List.take_add_one, List.getElem?_eq_getElem hi', List.foldl_append]
        show (pMoved _ _).length = _
        rw [pMoved_len]; exact hle) [.val (iT vs), .val (.tuple (rT rows)), .no] ⟨.no, by simp, by simp⟩
  obtain ⟨x, rfl, _⟩ := h2
  have hlen : (rT rows).length = rows.length := List.length_map _
  rw [hlen, List.take_length] at h1
  rw [callk_s hT]
  simp [f_after, b_after, ↓ev_lc, ↓ev_lcf, ↓ex_for, ↓ex_while, forRun, runFn, execs, exec, ev, evs, evIt, envOf, selfOf, slot, rd, rr, ofO, dcmp, dbin, dpr, dix, dsl, freshE, isTy, mkSlot, reOwn, ownD, int?, bool?, items_l, items_t, items_iT, atD, isNone, -List.map_map, h1]
theorem apply_ok (hB : T "is_between" = some f_is_between) (hL : T "is_list" = some f_is_list) (hC : T "check_list" = some f_check_list) (hS : T "is_selection" = some f_is_selection) (hA : T "are_moves" = some f_are_moves) (hCM : T "check_moves" = some f_check_moves) (hM : T "moved" = some f_moved) (hAf : T "after" = some f_after) (hT : T "apply" = some f_apply)
    {vs : List Int} (g : GoodL vs) {rows : List (List Int)} (hr : ∀ r ∈ rows, GoodSel vs r) (hl : rows.length ≤ 30) : callk T (k + 5) "apply" [iT vs, .tuple (rT rows)] .none = .ok (iT (rows.foldl pMoved vs)) .none := by
  have h1 := checklist_ok (k := k + 1) hB hL hC g
  have h2 := checkmoves_ok (k := k) hB hS hA hCM g hr hl
  have h3 := after_ok (k := k + 2) hM hAf (vs := vs) rows (by have := g.2.1; omega)
  rw [callk_s hT]
  simp [f_apply, b_apply, ↓ev_lc, ↓ev_lcf, ↓ex_for, ↓ex_while, forRun, runFn, execs, exec, ev, evs, evIt, envOf, selfOf, slot, rd, rr, ofO, dcmp, dbin, dpr, dix, dsl, freshE, isTy, mkSlot, reOwn, ownD, int?, bool?, items_l, items_t, items_iT, atD, isNone, -List.map_map, h1, h2, h3]
end
end BT
namespace BT
open PySem
section
variable {T : Tab} {k : Nat}
theorem rngL_at {lo : Int} {n i : Nat} (h : i < (rngL lo n).length) : (rngL lo n)[i] = .int (lo + (i : Int)) := by
  have e := (rngL_get (lo := lo) (n := n) (i := i) (x := (rngL lo n)[i]) (List.getElem?_eq_getElem h)).2
  exact e
theorem list_ok (hD : T "_law_draw" = some f_law_draw) (hC : T "_law_choice" = some f_law_choice) (hT : T "_law_list" = some f_law_list) {s : D} {n : Nat} (hs : Src n s) {most : Int} (h0 : 0 < most) (h1 : most ≤ 1000) (hn : n ≤ 100000000) :
    ∃ vs s', callk T (k + 3) "_law_list" [.int most] s = .ok (iT vs) s' ∧ vs.Nodup ∧ (∀ v ∈ vs, 0 ≤ v ∧ v ≤ 99) ∧ 1 ≤ vs.length ∧ (vs.length : Int) ≤ most ∧ Src (n + 2 + most.toNat) s' := by
  obtain ⟨dw, s1, hc, hdw, hs1⟩ := choice_ok (k := k) hD hC hs (xs := [.int 13, .int 100]) (by simp) (by simp) (by omega)
  have hw : ∃ wide : Int, dw = .int wide ∧ 0 < wide ∧ wide ≤ 100 := by
    simp at hdw
    rcases hdw with rfl | rfl
    · exact ⟨13, rfl, by omega, by omega⟩
    · exact ⟨100, rfl, by omega, by omega⟩
  obtain ⟨wide, rfl, w0, w1⟩ := hw
  obtain ⟨d0, s2, hd, d0a, d0b, hs2⟩ := draw_ok (k := k + 1) hD hs1 h0 (by omega) (by omega)
  have hlen : (rngL 0 (1 + d0).toNat).length = (1 + d0).toNat := rngL_len
  obtain ⟨e', f1, s3, vs, x4, x5, rfl, hs3, nd, rg, le, ge⟩ := for_inv (t := .v 4) (body := bodyF (callk T (k + 2)) (.cons (.asg 5 (.callS "_law_draw" 0 (.cons (.v 3) .nil))) (.cons (.if_ (.cmp .NotIn (.b 5) (.b 2)) (.cons (.app 2 (.v 5)) .nil) .nil) .nil)))
    (fun i e => ∃ s vs x4 x5, e = [.inp s, .val (.int most), .own (iL vs), .val (.int wide), x4, x5] ∧ Src (n + 2 + i) s ∧ vs.Nodup ∧ (∀ v ∈ vs, 0 ≤ v ∧ v ≤ 99) ∧ vs.length ≤ i ∧ (1 ≤ i → 1 ≤ vs.length)) (rngL 0 (1 + d0).toNat)
    (fun i hi e ⟨s, vs, x4, x5, he, hs, nd, rg, le, ge⟩ => by
      subst he
      rw [hlen] at hi
      obtain ⟨v, s', hv, v0, v1, hs'⟩ := draw_ok (k := k + 1) hD hs w0 (by omega) (by omega)
      have o := okIn_ints v vs
      have an := any_ints v vs
      have lb : vs.length < 1000000 := by omega
      have hat := rngL_at (lo := 0) (n := (1 + d0).toNat) (i := i) (by rw [hlen]; exact hi)
      by_cases hm : v ∈ vs
      · refine ⟨[.inp s, .val (.int most), .own (iL vs), .val (.int wide), .val (.int (0 + (i : Int))), x5], [.inp s', .val (.int most), .own (iL vs), .val (.int wide), .val (.int (0 + (i : Int))), .val (.int v)], by simp [bindT, hat], by simp [bodyF, iL, ↓ev_lc, ↓ev_lcf, ↓ex_for, ↓ex_while, forRun, runFn, execs, exec, ev, evs, evIt, envOf, selfOf, slot, rd, rr, ofO, dcmp, dbin, dpr, dix, dsl, freshE, isTy, mkSlot, reOwn, ownD, int?, bool?, items_l, items_t, items_iT, atD, isNone, -List.map_map, hv, o, an, hm, -List.any_map], s', vs, _, _, rfl, hs', nd, rg, by omega, fun _ => ?_⟩
        cases vs with
        | nil => simp at hm
        | cons _ _ => simp
      · refine ⟨[.inp s, .val (.int most), .own (iL vs), .val (.int wide), .val (.int (0 + (i : Int))), x5], [.inp s', .val (.int most), .own (iL (vs ++ [v])), .val (.int wide), .val (.int (0 + (i : Int))), .val (.int v)], by simp [bindT, hat], by simp [bodyF, iL, ↓ev_lc, ↓ev_lcf, ↓ex_for, ↓ex_while, forRun, runFn, execs, exec, ev, evs, evIt, envOf, selfOf, slot, rd, rr, ofO, dcmp, dbin, dpr, dix, dsl, freshE, isTy, mkSlot, reOwn, ownD, int?, bool?, items_l, items_t, items_iT, atD, isNone, -List.map_map, hv, o, an, hm, lb, -List.any_map], s', vs ++ [v], _, _, rfl, hs', ?_, ?_, ?_, fun _ => ?_⟩
        · refine List.nodup_append.mpr ⟨nd, by simp, fun a ha b hb => ?_⟩
          have hb : b = v := by simpa using hb
          exact fun z => hm (hb ▸ z ▸ ha)
        · intro a ha
          rcases List.mem_append.mp ha with ha | ha
          · exact rg a ha
          · have : a = v := by simpa using ha
            omega
        · simp; omega
        · simp) [.inp s2, .val (.int most), .own (iL []), .val (.int wide), .no, .no] ⟨s2, [], .no, .no, rfl, hs2, List.nodup_nil, by simp, by simp, by simp⟩
  rw [hlen] at hs3 le ge
  refine ⟨vs, s3, ?_, nd, rg, ge (by omega), by omega, hs3.mono (by omega)⟩
  have sm : smallI (1 + d0) = true := by unfold smallI; exact decide_eq_true (by omega)
  rw [callk_s hT]
  have f2 : forGo (.v 4) (bodyF (callk T (k + 2)) (.cons (.asg 5 (.callS "_law_draw" 0 (.cons (.v 3) .nil))) (.cons (.if_ (.cmp .NotIn (.b 5) (.b 2)) (.cons (.app 2 (.v 5)) .nil) .nil) .nil))) (rngL 0 (1 + d0).toNat) [.inp s2, .val (.int most), .own (.list []), .val (.int wide), .no, .no] = .ok .next [.inp s3, .val (.int most), .own (iL vs), .val (.int wide), x4, x5] := f1
  simp [f_law_list, b_law_list, ↓ev_lc, ↓ev_lcf, ↓ex_for, ↓ex_while, forRun, runFn, execs, exec, ev, evs, evIt, envOf, selfOf, slot, rd, rr, ofO, dcmp, dbin, dpr, dix, dsl, freshE, isTy, mkSlot, reOwn, ownD, int?, bool?, items_l, items_t, items_iT, atD, isNone, -List.map_map, hc, hd, sm, f2, iL, iT]
theorem sort_good {vals acc : List Int} (nd : vals.Nodup) (h : acc.Sublist vals) : GoodSel vals (sortI acc) := by
  have pm := sortI_perm acc
  refine ⟨fun v hv => h.subset (pm.mem_iff.mp hv), ?_⟩
  have n2 : (sortI acc).Nodup := pm.nodup_iff.mpr (h.nodup nd)
  have p := sortI_sorted acc
  exact (List.pairwise_and_iff.mpr ⟨p, n2⟩).imp fun ⟨a, b⟩ => by omega
theorem selection_ok (hD : T "_law_draw" = some f_law_draw) (hC : T "_law_choice" = some f_law_choice) (hT : T "_law_selection" = some f_law_selection) {s : D} {n : Nat} (hs : Src n s) {vals : List Int} (nd : vals.Nodup) (hl : vals.length ≤ 1000) (hn : n ≤ 100000000) :
    ∃ sel s', callk T (k + 3) "_law_selection" [iT vals] s = .ok (iT sel) s' ∧ GoodSel vals sel ∧ Src (n + 1 + vals.length) s' := by
  obtain ⟨dw, s1, hc, hdw, hs1⟩ := choice_ok (k := k) hD hC hs (xs := [.int 2, .int 4, .int 1]) (by simp) (by simp) (by omega)
  have hw : ∃ wide : Int, dw = .int wide ∧ 0 < wide ∧ wide ≤ 100 := by
    simp at hdw
    rcases hdw with rfl | rfl | rfl
    · exact ⟨2, rfl, by omega, by omega⟩
    · exact ⟨4, rfl, by omega, by omega⟩
    · exact ⟨1, rfl, by omega, by omega⟩
  obtain ⟨wide, rfl, w0, w1⟩ := hw
  have hlen : (vals.map PyData.int).length = vals.length := List.length_map _
  obtain ⟨ys, e3, f1, s3, acc, x, rfl, rfl, sub, hs3⟩ := lcf_inv (C := callk T (k + 2)) (vs := [3]) (t := .v 3) (x' := .v 3) (c' := .cmp .Eq (.callS "_law_draw" 0 (.cons (.v 2) .nil)) (.k (.int (0)))) (e1 := [.inp s1, .val (.tuple (vals.map PyData.int)), .val (.int wide), .no])
    (fun i ys e => ∃ s acc x, e = [.inp s, .val (.tuple (vals.map PyData.int)), .val (.int wide), x] ∧ ys = acc.map PyData.int ∧ acc.Sublist (vals.take i) ∧ Src (n + 1 + i) s) (vals.map PyData.int) (by simp [wipeE, bindT, noOwn, ownD, slot]) (by rw [hlen]; exact Nat.le_trans hl (by decide))
    ⟨s1, [], .no, rfl, rfl, by simp, hs1⟩ (fun i hi ys e ⟨s, acc, x, he, hy, sub, hs⟩ => by
      subst he hy
      rw [hlen] at hi
      obtain ⟨v, s', hv, v0, v1, hs'⟩ := draw_ok (k := k + 1) hD hs w0 (by omega) (by omega)
      have tk : vals.take (i + 1) = vals.take i ++ [vals[i]] := by rw [List.take_add_one, List.getElem?_eq_getElem hi]; rfl
      refine ⟨[.inp s, .val (.tuple (vals.map PyData.int)), .val (.int wide), .val (.int vals[i])], decide (v = 0), [.inp s', .val (.tuple (vals.map PyData.int)), .val (.int wide), .val (.int vals[i])], by simp [wipeE, bindT, noOwn, ownD, slot], ?_, fun hb => ⟨s', acc, _, rfl, rfl, ?_, hs'⟩, fun hb => ⟨.int vals[i], [.inp s', .val (.tuple (vals.map PyData.int)), .val (.int wide), .val (.int vals[i])], by simp [↓ev_lc, ↓ev_lcf, ↓ex_for, ↓ex_while, forRun, runFn, execs, exec, ev, evs, evIt, envOf, selfOf, slot, rd, rr, ofO, dcmp, dbin, dpr, dix, dsl, freshE, isTy, mkSlot, reOwn, ownD, int?, bool?, items_l, items_t, items_iT, atD, isNone, -List.map_map], s', acc ++ [vals[i]], _, rfl, by simp, ?_, hs'⟩⟩
      · simp [↓ev_lc, ↓ev_lcf, ↓ex_for, ↓ex_while, forRun, runFn, execs, exec, ev, evs, evIt, envOf, selfOf, slot, rd, rr, ofO, dcmp, dbin, dpr, dix, dsl, freshE, isTy, mkSlot, reOwn, ownD, int?, bool?, items_l, items_t, items_iT, atD, isNone, -List.map_map, hv, okEq, PyData.plain, PyData.depth, PyData.eqv]
        by_cases hv0 : v = 0 <;> simp [hv0]
      · rw [tk]; exact sub.trans (List.sublist_append_left _ _)
      · rw [tk]; exact sub.append (List.Sublist.refl _))
  rw [hlen, List.take_length] at sub
  rw [hlen] at hs3
  refine ⟨sortI acc, s3, ?_, sort_good nd sub, hs3⟩
  have f2 : lcRun [3] (.v 3) (.ok (vals.map PyData.int) [.inp s1, .val (.tuple (vals.map PyData.int)), .val (.int wide), .no]) (evF (callk T (k + 2)) (.v 3) (.cmp .Eq (.callS "_law_draw" 0 (.cons (.v 2) .nil)) (.k (.int (0))))) = .ok (.list (acc.map PyData.int)) [.inp s3, .val (.tuple (vals.map PyData.int)), .val (.int wide), .no] := f1
  have e1 := ints?_map acc
  rw [callk_s hT]
  simp [f_law_selection, b_law_selection, iT, ↓ev_lc, ↓ev_lcf, ↓ex_for, ↓ex_while, forRun, runFn, execs, exec, ev, evs, evIt, envOf, selfOf, slot, rd, rr, ofO, dcmp, dbin, dpr, dix, dsl, freshE, isTy, mkSlot, reOwn, ownD, int?, bool?, items_l, items_t, items_iT, atD, isNone, -List.map_map, hc, f2, e1]
theorem somemoves_ok (hD : T "_law_draw" = some f_law_draw) (hC : T "_law_choice" = some f_law_choice) (hS : T "_law_selection" = some f_law_selection) (hT : T "_law_some_moves" = some f_law_some_moves) {s : D} {n : Nat} (hs : Src n s) {vals : List Int} (nd : vals.Nodup) (hl : vals.length ≤ 12) {most : Int} (m0 : 0 ≤ most) (m1 : most ≤ 1000) (hn : n ≤ 1000000) :
    ∃ rows s', callk T (k + 4) "_law_some_moves" [iT vals, .int most] s = .ok (.tuple (rT rows)) s' ∧ (∀ r ∈ rows, GoodSel vals r) ∧ (rows.length : Int) ≤ most ∧ Src (n + 1 + 13 * most.toNat) s' := by
  obtain ⟨d0, s2, hd, d0a, d0b, hs2⟩ := draw_ok (k := k + 2) hD hs (size := most + 1) (by omega) (by omega) (by omega)
  have hlen : (rngL 0 d0.toNat).length = d0.toNat := rngL_len
  obtain ⟨ys, e3, f1, s3, rows, x, rfl, rfl, good, rl, hs3⟩ := lc_inv (C := callk T (k + 3)) (vs := [3]) (t := .v 3) (x' := .callS "_law_selection" 0 (.cons (.v 1) .nil)) (e1 := [.inp s2, .val (iT vals), .val (.int most), .no])
    (fun i ys e => ∃ s rows x, e = [.inp s, .val (iT vals), .val (.int most), x] ∧ ys = rT rows ∧ (∀ r ∈ rows, GoodSel vals r) ∧ rows.length = i ∧ Src (n + 1 + 13 * i) s) (rngL 0 d0.toNat) (by simp [wipeE, bindT, noOwn, ownD, slot]) (by rw [hlen]; exact Nat.le_trans (show d0.toNat ≤ 1000 by omega) (by decide))
    ⟨s2, [], .no, rfl, rfl, by simp, rfl, hs2⟩ (fun i hi ys e ⟨s, rows, x, he, hy, good, rl, hs⟩ => by
      subst he hy
      rw [hlen] at hi
      obtain ⟨sel, s', hv, gs, hs'⟩ := selection_ok (k := k) hD hC hS hs nd (by omega) (by omega)
      have hat := rngL_at (lo := 0) (n := d0.toNat) (i := i) (by rw [hlen]; exact hi)
      refine ⟨[.inp s, .val (iT vals), .val (.int most), .val (.int (0 + (i : Int)))], iT sel, [.inp s', .val (iT vals), .val (.int most), .val (.int (0 + (i : Int)))], by simp [wipeE, bindT, noOwn, ownD, slot, hat], by simp [↓ev_lc, ↓ev_lcf, ↓ex_for, ↓ex_while, forRun, runFn, execs, exec, ev, evs, evIt, envOf, selfOf, slot, rd, rr, ofO, dcmp, dbin, dpr, dix, dsl, freshE, isTy, mkSlot, reOwn, ownD, int?, bool?, items_l, items_t, items_iT, atD, isNone, -List.map_map, hv], s', rows ++ [sel], _, rfl, by simp [rT], ?_, by simp [rl], hs'.mono (by omega)⟩
      intro r hr
      rcases List.mem_append.mp hr with hr | hr
      · exact good r hr
      · have : r = sel := by simpa using hr
        rw [this]; exact gs)
  rw [hlen] at hs3 rl
  refine ⟨rows, s3, ?_, good, by omega, hs3.mono (by omega)⟩
  have f2 : lcRun [3] (.v 3) (.ok (rngL 0 d0.toNat) [.inp s2, .val (iT vals), .val (.int most), .no]) (evT (callk T (k + 3)) (.callS "_law_selection" 0 (.cons (.v 1) .nil))) = .ok (.list (rT rows)) [.inp s3, .val (iT vals), .val (.int most), .no] := f1
  have sm : smallI d0 = true := by unfold smallI; exact decide_eq_true (by omega)
  rw [callk_s hT]
  simp [f_law_some_moves, b_law_some_moves, ↓ev_lc, ↓ev_lcf, ↓ex_for, ↓ex_while, forRun, runFn, execs, exec, ev, evs, evIt, envOf, selfOf, slot, rd, rr, ofO, dcmp, dbin, dpr, dix, dsl, freshE, isTy, mkSlot, reOwn, ownD, int?, bool?, items_l, items_t, items_iT, atD, isNone, -List.map_map, hd, sm, f2]
end
end BT
namespace BT.Gk02
open PySem PySem.Spec PyProof.Rows L2 BT
abbrev top (i : Nat) : Stmt := PySem.Challenge.pw_batchtop_k02_moves_executed.main.body.getD i (.Pass ⟨0, 0, 0, 0⟩)
def fsL : List FI := [
  ⟨"is_between", "is_between", false, false, 3⟩,
  ⟨"is_list", "is_list", false, false, 1⟩,
  ⟨"check_list", "check_list", false, false, 1⟩,
  ⟨"is_selection", "is_selection", false, false, 2⟩,
  ⟨"are_moves", "are_moves", false, false, 2⟩,
  ⟨"check_moves", "check_moves", false, false, 2⟩,
  ⟨"moved", "moved", false, false, 2⟩,
  ⟨"after", "after", false, false, 2⟩,
  ⟨"apply", "apply", false, false, 2⟩,
  ⟨"_law_source", "_law_source", false, true, 2⟩,
  ⟨"_law_draw", "_law_draw", true, false, 1⟩,
  ⟨"_law_choice", "_law_choice", true, false, 1⟩,
  ⟨"_law_kind", "_law_kind", false, false, 1⟩,
  ⟨"_law_equal", "_law_equal", false, false, 2⟩,
  ⟨"_law_list", "_law_list", true, false, 1⟩,
  ⟨"_law_selection", "_law_selection", true, false, 1⟩,
  ⟨"_law_some_moves", "_law_some_moves", true, false, 2⟩,
  ⟨"_law_moved", "_law_moved", false, false, 2⟩,
  ⟨"law", "law", false, false, 1⟩]
def ksL : List (Str × D) := [("MAX_ITEM", .int (99)), ("MAX_ITEMS", .int (12)), ("MAX_MOVES", .int (30))]
def N_is_between : List Str := ["value", "low", "high"]
def N_is_list : List Str := ["value", "item"]
def N_check_list : List Str := ["items"]
def N_is_selection : List Str := ["items", "value", "item", "first", "second"]
def N_are_moves : List Str := ["items", "value", "selection"]
def N_check_moves : List Str := ["items", "moves"]
def N_moved : List Str := ["items", "selection", "top", "item"]
def N_after : List Str := ["items", "moves", "selection"]
def N_apply : List Str := ["items", "moves"]
def N_law_source : List Str := ["cell", "turn"]
def N_law_draw : List Str := ["source", "size", "drawn", "number"]
def N_law_choice : List Str := ["source", "items"]
def N_law_kind : List Str := ["value"]
def N_law_equal : List Str := ["value", "expected", "k", "part"]
def N_law_list : List Str := ["source", "most", "found", "wide", "turn", "item"]
def N_law_selection : List Str := ["source", "values", "often", "item"]
def N_law_some_moves : List Str := ["source", "values", "most", "turn"]
def N_law_moved : List Str := ["values", "selection", "top", "item"]
def N_law : List Str := ["script", "cell", "source", "values", "rows", "expected", "many"]
def b_is_between : ISs := (.cons (.ret (.and (.isi (.b 0) [.int]) (.and (.not (.isi (.b 0) [.bool])) (.cmp2 .LtE .LtE (.v 1) (.v 0) (.v 2))))) .nil)
def b_is_list : ISs := (.cons (.if_ (.or (.not (.isi (.b 0) [.tuple])) (.not (.cmp2 .LtE .LtE (.k (.int (1))) (.pr .len (.b 0)) (.k (.int (12)))))) (.cons (.ret (.k (.bool false))) .nil) .nil) (.cons (.ret (.and (.pr .all (.lc [1] (.call "is_between" (.cons (.v 1) (.cons (.k (.int (0))) (.cons (.k (.int (99))) .nil)))) (.v 1) (.e (.v 0)))) (.cmp .Eq (.pr .lenset (.b 0)) (.pr .len (.b 0))))) .nil))
def b_check_list : ISs := (.cons (.if_ (.not (.call "is_list" (.cons (.v 0) .nil))) (.cons (.raise "E") .nil) .nil) .nil)
def b_is_selection : ISs := (.cons (.if_ (.or (.not (.isi (.b 1) [.tuple])) (.not (.pr .all (.lc [2] (.call "is_between" (.cons (.v 2) (.cons (.k (.int (0))) (.cons (.k (.int (99))) .nil)))) (.v 2) (.e (.v 1)))))) (.cons (.ret (.k (.bool false))) .nil) .nil) (.cons (.if_ (.not (.pr .all (.lc [2] (.cmp .In (.b 2) (.b 0)) (.v 2) (.e (.v 1))))) (.cons (.ret (.k (.bool false))) .nil) .nil) (.cons (.ret (.pr .all (.lc [3, 4] (.cmp .Lt (.b 3) (.b 4)) (.p2 (.v 3) (.v 4)) (.zip (.v 1) (.sll (.b 1) (.k (.int (1)))))))) .nil)))
def b_are_moves : ISs := (.cons (.if_ (.or (.not (.isi (.b 1) [.tuple])) (.cmp .Gt (.pr .len (.b 1)) (.k (.int (30))))) (.cons (.ret (.k (.bool false))) .nil) .nil) (.cons (.ret (.pr .all (.lc [2] (.call "is_selection" (.cons (.v 0) (.cons (.v 2) .nil))) (.v 2) (.e (.v 1))))) .nil))
def b_check_moves : ISs := (.cons (.if_ (.not (.call "are_moves" (.cons (.v 0) (.cons (.v 1) .nil)))) (.cons (.raise "E") .nil) .nil) .nil)
def b_moved : ISs := (.cons (.asg 2 (.lcf [3] (.v 3) (.v 3) (.e (.v 0)) (.cmp .In (.b 3) (.b 1)))) (.cons (.ret (.pr .tuple (.bin .Add (.b 2) (.lcf [3] (.v 3) (.v 3) (.e (.v 0)) (.cmp .NotIn (.b 3) (.b 1)))))) .nil))
def b_after : ISs := (.cons (.for_ (.v 2) (.e (.v 1)) (.cons (.asg 0 (.call "moved" (.cons (.v 0) (.cons (.v 2) .nil)))) .nil)) (.cons (.ret (.v 0)) .nil))
def b_apply : ISs := (.cons (.ex (.call "check_list" (.cons (.v 0) .nil))) (.cons (.ex (.call "check_moves" (.cons (.v 0) (.cons (.v 1) .nil)))) (.cons (.ret (.call "after" (.cons (.v 0) (.cons (.v 1) .nil)))) .nil)))
def b_law_source : ISs := (.cons (.if_ (.cmp .GtE (.b 0) (.bin .Pow (.k (.int (10))) (.k (.int (18))))) (.cons (.retF (.lst (.cons (.bin .Sub (.b 0) (.bin .Pow (.k (.int (10))) (.k (.int (18))))) (.cons (.bin .Mod (.b 0) (.k (.int (2147483579)))) (.cons (.v 1) .nil))))) .nil) .nil) (.cons (.retF (.lst (.cons (.k (.int (0))) (.cons (.bin .Mod (.b 0) (.k (.int (2147483579)))) (.cons (.v 1) .nil))))) .nil))
def b_law_draw : ISs := (.cons (.if_ (.cmp .Gt (.ix (.b 0) (.k (.int (0)))) (.k (.int (1)))) (.cons (.asg 2 (.bin .Mod (.ix (.b 0) (.k (.int (0)))) (.b 1))) (.cons (.setI 0 (.k (.int (0))) (.bin .FloorDiv (.ix (.b 0) (.k (.int (0)))) (.b 1))) (.cons (.ret (.v 2)) .nil))) .nil) (.cons (.setI 0 (.k (.int (2))) (.bin .Add (.ix (.b 0) (.k (.int (2)))) (.k (.int (1))))) (.cons (.asg 3 (.bin .Mod (.bin .Pow (.bin .Add (.ix (.b 0) (.k (.int (1)))) (.bin .Mult (.k (.int (15485867))) (.ix (.b 0) (.k (.int (2)))))) (.k (.int (5)))) (.k (.int (2147483647))))) (.cons (.asg 2 (.bin .FloorDiv (.bin .Mod (.bin .Pow (.bin .Add (.b 3) (.bin .Mult (.k (.int (7919))) (.ix (.b 0) (.k (.int (2)))))) (.k (.int (3)))) (.k (.int (2147483629)))) (.k (.int (32))))) (.cons (.ret (.bin .Mod (.b 2) (.b 1))) .nil)))))
def b_law_choice : ISs := (.cons (.ret (.ix (.b 1) (.callS "_law_draw" 0 (.cons (.pr .len (.b 1)) .nil)))) .nil)
def b_law_kind : ISs := (.cons (.if_ (.isi (.b 0) [.bool]) (.cons (.ret (.k (.int (1)))) .nil) .nil) (.cons (.if_ (.isi (.b 0) [.int]) (.cons (.ret (.k (.int (2)))) .nil) .nil) (.cons (.if_ (.isi (.b 0) [.str]) (.cons (.ret (.k (.int (3)))) .nil) .nil) (.cons (.if_ (.isi (.b 0) [.list]) (.cons (.ret (.k (.int (4)))) .nil) .nil) (.cons (.ret (.ite (.isi (.b 0) [.tuple]) (.k (.int (5))) (.k (.int (6))))) .nil)))))
def b_law_equal : ISs := (.cons (.if_ (.cmp .NotEq (.call "_law_kind" (.cons (.v 0) .nil)) (.call "_law_kind" (.cons (.v 1) .nil))) (.cons (.ret (.k (.bool false))) .nil) .nil) (.cons (.if_ (.and (.cmp .Gt (.call "_law_kind" (.cons (.v 0) .nil)) (.k (.int (3)))) (.cmp .Lt (.call "_law_kind" (.cons (.v 0) .nil)) (.k (.int (6))))) (.cons (.if_ (.cmp .NotEq (.pr .len (.b 0)) (.pr .len (.b 1))) (.cons (.ret (.k (.bool false))) .nil) .nil) (.cons (.ret (.cmp .Eq (.lcf [2, 3] (.v 2) (.p2 (.v 2) (.v 3)) (.enum (.v 0)) (.not (.call "_law_equal" (.cons (.v 3) (.cons (.ix (.b 1) (.b 2)) .nil))))) (.lst .nil))) .nil)) .nil) (.cons (.ret (.cmp .Eq (.b 0) (.b 1))) .nil)))
def b_law_list : ISs := (.cons (.asg2 2 3 (.lst .nil) (.callS "_law_choice" 0 (.cons (.lst (.cons (.k (.int (13))) (.cons (.k (.int (100))) .nil))) .nil))) (.cons (.for_ (.v 4) (.r1 (.bin .Add (.k (.int (1))) (.callS "_law_draw" 0 (.cons (.v 1) .nil)))) (.cons (.asg 5 (.callS "_law_draw" 0 (.cons (.v 3) .nil))) (.cons (.if_ (.cmp .NotIn (.b 5) (.b 2)) (.cons (.app 2 (.v 5)) .nil) .nil) .nil))) (.cons (.ret (.pr .tuple (.b 2))) .nil)))
def b_law_selection : ISs := (.cons (.asg 2 (.callS "_law_choice" 0 (.cons (.lst (.cons (.k (.int (2))) (.cons (.k (.int (4))) (.cons (.k (.int (1))) .nil)))) .nil))) (.cons (.ret (.pr .tuple (.pr .sorted (.lcf [3] (.v 3) (.v 3) (.e (.v 1)) (.cmp .Eq (.callS "_law_draw" 0 (.cons (.v 2) .nil)) (.k (.int (0)))))))) .nil))
def b_law_some_moves : ISs := (.cons (.ret (.pr .tuple (.lc [3] (.callS "_law_selection" 0 (.cons (.v 1) .nil)) (.v 3) (.r1 (.callS "_law_draw" 0 (.cons (.bin .Add (.b 2) (.k (.int (1)))) .nil)))))) .nil)
def b_law_moved : ISs := (.cons (.asg 2 (.pr .tuple (.lcf [3] (.v 3) (.v 3) (.e (.v 0)) (.cmp .In (.b 3) (.b 1))))) (.cons (.ret (.bin .Add (.b 2) (.pr .tuple (.lcf [3] (.v 3) (.v 3) (.e (.v 0)) (.cmp .NotIn (.b 3) (.b 1)))))) .nil))
def b_law : ISs := (.cons (.for_ (.v 1) (.e (.slu (.bin .Add (.lst (.cons (.k (.int (0))) .nil)) (.b 0)) (.k (.int (10))))) (.cons (.asg 2 (.callF "_law_source" (.cons (.v 1) (.cons (.k (.int (2))) .nil)))) (.cons (.asg 3 (.callS "_law_list" 2 (.cons (.k (.int (12))) .nil))) (.cons (.asg 4 (.callS "_law_some_moves" 2 (.cons (.v 3) (.cons (.k (.int (30))) .nil)))) (.cons (.asg 5 (.v 3)) (.cons (.for_ (.v 6) (.r1 (.bin .Add (.pr .len (.b 4)) (.k (.int (1))))) (.cons (.if_ (.not (.call "_law_equal" (.cons (.call "apply" (.cons (.v 3) (.cons (.slu (.b 4) (.b 6)) .nil))) (.cons (.v 5) .nil)))) (.cons (.ret (.k (.bool false))) .nil) .nil) (.cons (.if_ (.cmp .Lt (.b 6) (.pr .len (.b 4))) (.cons (.asg 5 (.call "_law_moved" (.cons (.v 5) (.cons (.ix (.b 4) (.b 6)) .nil)))) .nil) .nil) .nil))) (.cons (.if_ (.cmp .NotEq (.call "apply" (.cons (.v 3) (.cons (.tup (.cons (.pr .tuple (.pr .sorted (.b 3))) (.cons (.tup .nil) .nil))) .nil))) (.b 3)) (.cons (.ret (.k (.bool false))) .nil) .nil) .nil))))))) (.cons (.ret (.cmp .Eq (.call "apply" (.cons (.tup (.cons (.k (.int (1))) (.cons (.k (.int (2))) (.cons (.k (.int (3))) (.cons (.k (.int (4))) (.cons (.k (.int (5))) .nil)))))) (.cons (.tup (.cons (.tup (.cons (.k (.int (1))) (.cons (.k (.int (3))) (.cons (.k (.int (4))) (.cons (.k (.int (5))) .nil))))) (.cons (.tup (.cons (.k (.int (2))) (.cons (.k (.int (4))) .nil))) .nil))) .nil))) (.tup (.cons (.k (.int (4))) (.cons (.k (.int (2))) (.cons (.k (.int (1))) (.cons (.k (.int (3))) (.cons (.k (.int (5))) .nil)))))))) .nil))
def f_is_between : Fn := ⟨3, 3, false, false, b_is_between⟩
def f_is_list : Fn := ⟨1, 2, false, false, b_is_list⟩
def f_check_list : Fn := ⟨1, 1, false, false, b_check_list⟩
def f_is_selection : Fn := ⟨2, 5, false, false, b_is_selection⟩
def f_are_moves : Fn := ⟨2, 3, false, false, b_are_moves⟩
def f_check_moves : Fn := ⟨2, 2, false, false, b_check_moves⟩
def f_moved : Fn := ⟨2, 4, false, false, b_moved⟩
def f_after : Fn := ⟨2, 3, false, false, b_after⟩
def f_apply : Fn := ⟨2, 2, false, false, b_apply⟩
def f_law_source : Fn := ⟨2, 2, false, true, b_law_source⟩
def f_law_draw : Fn := ⟨1, 4, true, false, b_law_draw⟩
def f_law_choice : Fn := ⟨1, 2, true, false, b_law_choice⟩
def f_law_kind : Fn := ⟨1, 1, false, false, b_law_kind⟩
def f_law_equal : Fn := ⟨2, 4, false, false, b_law_equal⟩
def f_law_list : Fn := ⟨1, 6, true, false, b_law_list⟩
def f_law_selection : Fn := ⟨1, 4, true, false, b_law_selection⟩
def f_law_some_moves : Fn := ⟨2, 4, true, false, b_law_some_moves⟩
def f_law_moved : Fn := ⟨2, 4, false, false, b_law_moved⟩
def f_law : Fn := ⟨1, 7, false, false, b_law⟩
def tab : Tab := fun f =>
  if f = "is_between" then some f_is_between
  else if f = "is_list" then some f_is_list
  else if f = "check_list" then some f_check_list
  else if f = "is_selection" then some f_is_selection
  else if f = "are_moves" then some f_are_moves
  else if f = "check_moves" then some f_check_moves
  else if f = "moved" then some f_moved
  else if f = "after" then some f_after
  else if f = "apply" then some f_apply
  else if f = "_law_source" then some f_law_source
  else if f = "_law_draw" then some f_law_draw
  else if f = "_law_choice" then some f_law_choice
  else if f = "_law_kind" then some f_law_kind
  else if f = "_law_equal" then some f_law_equal
  else if f = "_law_list" then some f_law_list
  else if f = "_law_selection" then some f_law_selection
  else if f = "_law_some_moves" then some f_law_some_moves
  else if f = "_law_moved" then some f_law_moved
  else if f = "law" then some f_law
  else none
theorem t_is_between : tab "is_between" = some f_is_between := by kernel_rfl
theorem t_is_list : tab "is_list" = some f_is_list := by kernel_rfl
theorem t_check_list : tab "check_list" = some f_check_list := by kernel_rfl
theorem t_is_selection : tab "is_selection" = some f_is_selection := by kernel_rfl
theorem t_are_moves : tab "are_moves" = some f_are_moves := by kernel_rfl
theorem t_check_moves : tab "check_moves" = some f_check_moves := by kernel_rfl
theorem t_moved : tab "moved" = some f_moved := by kernel_rfl
theorem t_after : tab "after" = some f_after := by kernel_rfl
theorem t_apply : tab "apply" = some f_apply := by kernel_rfl
theorem t_law_source : tab "_law_source" = some f_law_source := by kernel_rfl
theorem t_law_draw : tab "_law_draw" = some f_law_draw := by kernel_rfl
theorem t_law_choice : tab "_law_choice" = some f_law_choice := by kernel_rfl
theorem t_law_kind : tab "_law_kind" = some f_law_kind := by kernel_rfl
theorem t_law_equal : tab "_law_equal" = some f_law_equal := by kernel_rfl
theorem t_law_list : tab "_law_list" = some f_law_list := by kernel_rfl
theorem t_law_selection : tab "_law_selection" = some f_law_selection := by kernel_rfl
theorem t_law_some_moves : tab "_law_some_moves" = some f_law_some_moves := by kernel_rfl
theorem t_law_moved : tab "_law_moved" = some f_law_moved := by kernel_rfl
theorem t_law : tab "law" = some f_law := by kernel_rfl
end BT.Gk02
namespace BT.Gk02
open PySem BT
theorem ground {T : Tab} {k : Nat} : True := trivial
section
variable {k : Nat}
theorem hB : tab "is_between" = some BT.f_is_between := by kernel_rfl
theorem hL : tab "is_list" = some BT.f_is_list := by kernel_rfl
theorem hC : tab "check_list" = some BT.f_check_list := by kernel_rfl
theorem hS : tab "is_selection" = some BT.f_is_selection := by kernel_rfl
theorem hA : tab "are_moves" = some BT.f_are_moves := by kernel_rfl
theorem hCM : tab "check_moves" = some BT.f_check_moves := by kernel_rfl
theorem hM : tab "moved" = some BT.f_moved := by kernel_rfl
theorem hAf : tab "after" = some BT.f_after := by kernel_rfl
theorem hAp : tab "apply" = some BT.f_apply := by kernel_rfl
theorem hSo : tab "_law_source" = some BT.f_law_source := by kernel_rfl
theorem hD : tab "_law_draw" = some BT.f_law_draw := by kernel_rfl
theorem hCh : tab "_law_choice" = some BT.f_law_choice := by kernel_rfl
theorem hK : tab "_law_kind" = some BT.f_law_kind := by kernel_rfl
theorem hE : tab "_law_equal" = some BT.f_law_equal := by kernel_rfl
theorem hLi : tab "_law_list" = some BT.f_law_list := by kernel_rfl
theorem hSe : tab "_law_selection" = some BT.f_law_selection := by kernel_rfl
theorem hSm : tab "_law_some_moves" = some BT.f_law_some_moves := by kernel_rfl
theorem hMo : tab "_law_moved" = some BT.f_law_moved := by kernel_rfl
theorem app {vs : List Int} (g : GoodL vs) {rows : List (List Int)} (hr : ∀ r ∈ rows, GoodSel vs r) (hl : rows.length ≤ 30) : callk tab (k + 5) "apply" [iT vs, .tuple (rT rows)] .none = .ok (iT (rows.foldl pMoved vs)) .none :=
  apply_ok hB hL hC hS hA hCM hM hAf hAp g hr hl
theorem pl_iT {vs : List Int} (h : vs.length ≤ big) : Pl 1 (iT vs) := .tup (fun x hx => by
  obtain ⟨v, _, rfl⟩ := List.mem_map.mp hx
  exact .int v) (by rw [List.length_map]; exact h)
theorem foldl_len (rows : List (List Int)) : ∀ vs : List Int, (rows.foldl pMoved vs).length = vs.length := by
  induction rows with
  | nil => intro vs; rfl
  | cons r rows ih => intro vs; rw [List.foldl_cons, ih, pMoved_len]
theorem pMoved_self {vs sel : List Int} (h : ∀ v ∈ vs, v ∈ sel) : pMoved vs sel = vs := by
  unfold pMoved
  rw [List.filter_eq_self.mpr fun v hv => by simpa using h v hv, List.filter_eq_nil_iff.mpr fun v hv => by simpa using h v hv, List.append_nil]
theorem pMoved_nil (vs : List Int) : pMoved vs [] = vs := by
  have h1 : vs.filter (fun v => decide (v ∈ ([] : List Int))) = [] := List.filter_eq_nil_iff.mpr fun v hv => by simp
  have h2 : vs.filter (fun v => !decide (v ∈ ([] : List Int))) = vs := List.filter_eq_self.mpr fun v hv => by simp
  unfold pMoved
  rw [h1, h2, List.nil_append]
theorem eq_iT (vs : List Int) : okEq (iT vs) (iT vs) = true ∧ PyData.eqv (iT vs) (iT vs) = true := by
  have h1 := plain_ints vs
  have h2 := depth_ints vs
  have hp : (iT vs).plain = true := by simp [iT, PyData.plain, h1]
  refine ⟨?_, PySem.SeqAt.eqv_refl_plain _ hp⟩
  unfold okEq
  simp only [hp, Bool.and_self, Bool.true_and, Bool.and_eq_true, decide_eq_true_eq]
  have : (iT vs).depth ≤ 20 := by simp [iT, PyData.depth]; omega
  simp [this]
theorem cut_to {xs : List D} (i : Nat) : cutD xs none (some (i : Int)) = xs.take i := by
  unfold cutD
  have h : sIx xs.length xs.length (some (i : Int)) = min i xs.length := by simp [sIx]
  have h0 : sIx xs.length 0 none = 0 := rfl
  rw [h, h0, List.drop_zero, Nat.sub_zero]
  rcases Nat.le_total i xs.length with q | q
  · rw [Nat.min_eq_left q]
  · rw [Nat.min_eq_right q, List.take_length, List.take_of_length_le q]
theorem cut_take (xs : List D) (i : Nat) (h : i ≤ xs.length) : cutD xs none (some (i : Int)) = xs.take i := by
  unfold cutD
  simp [sIx]
def inner : ISs := (.cons (.if_ (.not (.call "_law_equal" (.cons (.call "apply" (.cons (.v 3) (.cons (.slu (.b 4) (.b 6)) .nil))) (.cons (.v 5) .nil)))) (.cons (.ret (.k (.bool false))) .nil) .nil) (.cons (.if_ (.cmp .Lt (.b 6) (.pr .len (.b 4))) (.cons (.asg 5 (.call "_law_moved" (.cons (.v 5) (.cons (.ix (.b 4) (.b 6)) .nil)))) .nil) .nil) .nil))
def cellB : ISs := (.cons (.asg 2 (.callF "_law_source" (.cons (.v 1) (.cons (.k (.int (2))) .nil)))) (.cons (.asg 3 (.callS "_law_list" 2 (.cons (.k (.int (12))) .nil))) (.cons (.asg 4 (.callS "_law_some_moves" 2 (.cons (.v 3) (.cons (.k (.int (30))) .nil)))) (.cons (.asg 5 (.v 3)) (.cons (.for_ (.v 6) (.r1 (.bin .Add (.pr .len (.b 4)) (.k (.int (1))))) (.cons (.if_ (.not (.call "_law_equal" (.cons (.call "apply" (.cons (.v 3) (.cons (.slu (.b 4) (.b 6)) .nil))) (.cons (.v 5) .nil)))) (.cons (.ret (.k (.bool false))) .nil) .nil) (.cons (.if_ (.cmp .Lt (.b 6) (.pr .len (.b 4))) (.cons (.asg 5 (.call "_law_moved" (.cons (.v 5) (.cons (.ix (.b 4) (.b 6)) .nil)))) .nil) .nil) .nil))) (.cons (.if_ (.cmp .NotEq (.call "apply" (.cons (.v 3) (.cons (.tup (.cons (.pr .tuple (.pr .sorted (.b 3))) (.cons (.tup .nil) .nil))) .nil))) (.b 3)) (.cons (.ret (.k (.bool false))) .nil) .nil) .nil))))))
theorem inner_ok {script cell : D} {s : D} {vs : List Int} (g : GoodL vs) {rows : List (List Int)} (hr : ∀ r ∈ rows, GoodSel vs r) (hl : rows.length ≤ 30) (x : Slot) :
    ∃ x', forGo (.v 6) (bodyF (callk tab 29) inner) (rngL 0 (rows.length + 1)) [.val script, .val cell, .own s, .val (iT vs), .val (.tuple (rT rows)), .val (iT vs), x] = .ok .next [.val script, .val cell, .own s, .val (iT vs), .val (.tuple (rT rows)), .val (iT (rows.foldl pMoved vs)), x'] := by
  have hlen : (rngL 0 (rows.length + 1)).length = rows.length + 1 := rngL_len
  have rl : (rT rows).length = rows.length := List.length_map _
  obtain ⟨e', f1, x', rfl⟩ := for_inv (t := .v 6) (body := bodyF (callk tab 29) inner)
    (fun i e => ∃ x : Slot, e = [.val script, .val cell, .own s, .val (iT vs), .val (.tuple (rT rows)), .val (iT ((rows.take i).foldl pMoved vs)), x]) (rngL 0 (rows.length + 1))
    (fun i hi e ⟨x, he⟩ => by
      subst he
      rw [hlen] at hi
      have hat := rngL_at (lo := 0) (n := rows.length + 1) (i := i) (by rw [hlen]; exact hi)
      have ha := app (k := 24) g (rows := rows.take i) (fun r hr' => hr r (List.mem_of_mem_take hr')) (by rw [List.length_take]; omega)
      have hlenF := foldl_len (rows.take i) vs
      have he := equal_ok (k := 26) hK hE 1 (iT ((rows.take i).foldl pMoved vs)) (pl_iT (by rw [hlenF]; exact Nat.le_trans g.2.1 (by decide)))
      have hc : cutD (rT rows) none (some (i : Int)) = rT (rows.take i) := by
        rw [cut_take _ _ (by rw [rl]; omega)]
        unfold rT
        rw [List.map_take]
      by_cases hlt : i < rows.length
      · have hmv := lawmoved_ok (k := 28) hMo (vs := (rows.take i).foldl pMoved vs) rows[i] (by rw [hlenF]; have := g.2.1; omega)
        have hg : (rT rows)[i]'(by rw [rl]; exact hlt) = iT rows[i] := by unfold rT; rw [List.getElem_map]
        refine ⟨[.val script, .val cell, .own s, .val (iT vs), .val (.tuple (rT rows)), .val (iT ((rows.take i).foldl pMoved vs)), .val (.int (0 + (i : Int)))], [.val script, .val cell, .own s, .val (iT vs), .val (.tuple (rT rows)), .val (iT (pMoved ((rows.take i).foldl pMoved vs) rows[i])), .val (.int (0 + (i : Int)))], by simp [bindT, hat], ?_, .val (.int (0 + (i : Int))), ?_⟩
        · simp [bodyF, inner, ↓ev_lc, ↓ev_lcf, ↓ex_for, ↓ex_while, forRun, runFn, execs, exec, ev, evs, evIt, envOf, selfOf, slot, rd, rr, ofO, dcmp, dbin, dpr, dix, dsl, freshE, isTy, mkSlot, reOwn, ownD, int?, bool?, items_l, items_t, items_iT, atD, isNone, -List.map_map, hc, ha, he, rl, hlt, hmv, hg]
        · rw [List.take_add_one, List.getElem?_eq_getElem hlt, List.foldl_append]
          rfl
      · have hi' : i = rows.length := by omega
        refine ⟨[.val script, .val cell, .own s, .val (iT vs), .val (.tuple (rT rows)), .val (iT ((rows.take i).foldl pMoved vs)), .val (.int (0 + (i : Int)))], [.val script, .val cell, .own s, .val (iT vs), .val (.tuple (rT rows)), .val (iT ((rows.take i).foldl pMoved vs)), .val (.int (0 + (i : Int)))], by simp [bindT, hat], ?_, .val (.int (0 + (i : Int))), ?_⟩
        · simp [bodyF, inner, ↓ev_lc, ↓ev_lcf, ↓ex_for, ↓ex_while, forRun, runFn, execs, exec, ev, evs, evIt, envOf, selfOf, slot, rd, rr, ofO, dcmp, dbin, dpr, dix, dsl, freshE, isTy, mkSlot, reOwn, ownD, int?, bool?, items_l, items_t, items_iT, atD, isNone, -List.map_map, hc, ha, he, rl, hlt]
        · rw [List.take_of_length_le (show rows.length ≤ i by omega), List.take_of_length_le (show rows.length ≤ i + 1 by omega)])
    [.val script, .val cell, .own s, .val (iT vs), .val (.tuple (rT rows)), .val (iT vs), x] ⟨x, by simp⟩
  rw [hlen, List.take_of_length_le (show rows.length ≤ rows.length + 1 by omega)] at f1
  exact ⟨x', f1⟩
theorem steps_ok {C : Calls} {script : D} {c : Int} {xs : List D} {vs : List Int} {rows : List (List Int)} {s1 s2 : D} {x' : Slot} (x2 x3 x4 x5 x6 : Slot) (h1 : C "_law_source" [.int c, .int 2] .none = .ok (.list xs) .none) (h2 : C "_law_list" [.int 12] (.list xs) = .ok (iT vs) s1)
    (h3 : C "_law_some_moves" [iT vs, .int 30] s1 = .ok (.tuple (rT rows)) s2) (sm : smallI ((rows.length : Int) + 1) = true)
    (h4 : forGo (.v 6) (bodyF (C) inner) (rngL 0 (rows.length + 1)) [.val script, .val (.int c), .own s2, .val (iT vs), .val (.tuple (rT rows)), .val (iT vs), x6] = .ok .next [.val script, .val (.int c), .own s2, .val (iT vs), .val (.tuple (rT rows)), .val (iT (rows.foldl pMoved vs)), x'])
    (h5 : C "apply" [iT vs, .tuple [.tuple ((sortI vs).map PyData.int), .tuple []]] .none = .ok (iT vs) .none) :
    BT.execs (C) cellB [.val script, .val (.int c), x2, x3, x4, x5, x6] = .ok .next [.val script, .val (.int c), .own s2, .val (iT vs), .val (.tuple (rT rows)), .val (iT (rows.foldl pMoved vs)), x'] := by
  obtain ⟨oq, evq⟩ := eq_iT vs
  have e1 := ints?_map vs
  have rl : (rT rows).length = rows.length := List.length_map _
  have tn : ((rows.length : Int) + 1).toNat = rows.length + 1 := by omega
  have q5 : BT.exec (C) (.for_ (.v 6) (.r1 (.bin .Add (.pr .len (.b 4)) (.k (.int (1))))) inner) [.val script, .val (.int c), .own s2, .val (iT vs), .val (.tuple (rT rows)), .val (iT vs), x6] = .ok .next [.val script, .val (.int c), .own s2, .val (iT vs), .val (.tuple (rT rows)), .val (iT (rows.foldl pMoved vs)), x'] := by
    have hi : BT.evIt C (.r1 (.bin .Add (.pr .len (.b 4)) (.k (.int (1))))) [.val script, .val (.int c), .own s2, .val (iT vs), .val (.tuple (rT rows)), .val (iT vs), x6] = .ok (rngL 0 (((rows.length : Int) + 1)).toNat) [.val script, .val (.int c), .own s2, .val (iT vs), .val (.tuple (rT rows)), .val (iT vs), x6] := by
      simp [↓ev_lc, ↓ev_lcf, ↓ex_for, ↓ex_while, forRun, runFn, execs, exec, ev, evs, evIt, envOf, selfOf, slot, rd, rr, ofO, dcmp, dbin, dpr, dix, dsl, freshE, isTy, mkSlot, reOwn, ownD, int?, bool?, items_l, items_t, items_iT, atD, isNone, -List.map_map, rl, sm]
    rw [ex_for, hi, tn]
    exact h4
  unfold inner at q5
  unfold cellB
  refine (ex_c (e1 := [.val script, .val (.int c), .own (.list xs), x3, x4, x5, x6]) (by simp [↓ev_lc, ↓ev_lcf, ↓ex_for, ↓ex_while, forRun, runFn, execs, exec, ev, evs, evIt, envOf, selfOf, slot, rd, rr, ofO, dcmp, dbin, dpr, dix, dsl, freshE, isTy, mkSlot, reOwn, ownD, int?, bool?, items_l, items_t, items_iT, atD, isNone, -List.map_map, h1])).trans ?_
  refine (ex_c (e1 := [.val script, .val (.int c), .own s1, .val (iT vs), x4, x5, x6]) (by simp [↓ev_lc, ↓ev_lcf, ↓ex_for, ↓ex_while, forRun, runFn, execs, exec, ev, evs, evIt, envOf, selfOf, slot, rd, rr, ofO, dcmp, dbin, dpr, dix, dsl, freshE, isTy, mkSlot, reOwn, ownD, int?, bool?, items_l, items_t, items_iT, atD, isNone, -List.map_map, h2])).trans ?_
  refine (ex_c (e1 := [.val script, .val (.int c), .own s2, .val (iT vs), .val (.tuple (rT rows)), x5, x6]) (by simp [↓ev_lc, ↓ev_lcf, ↓ex_for, ↓ex_while, forRun, runFn, execs, exec, ev, evs, evIt, envOf, selfOf, slot, rd, rr, ofO, dcmp, dbin, dpr, dix, dsl, freshE, isTy, mkSlot, reOwn, ownD, int?, bool?, items_l, items_t, items_iT, atD, isNone, -List.map_map, h3])).trans ?_
  refine (ex_c (e1 := [.val script, .val (.int c), .own s2, .val (iT vs), .val (.tuple (rT rows)), .val (iT vs), x6]) (by simp [↓ev_lc, ↓ev_lcf, ↓ex_for, ↓ex_while, forRun, runFn, execs, exec, ev, evs, evIt, envOf, selfOf, slot, rd, rr, ofO, dcmp, dbin, dpr, dix, dsl, freshE, isTy, mkSlot, reOwn, ownD, int?, bool?, items_l, items_t, items_iT, atD, isNone, -List.map_map])).trans ?_
  refine (ex_c (e1 := [.val script, .val (.int c), .own s2, .val (iT vs), .val (.tuple (rT rows)), .val (iT (rows.foldl pMoved vs)), x']) q5).trans ?_
  refine (ex_c (e1 := [.val script, .val (.int c), .own s2, .val (iT vs), .val (.tuple (rT rows)), .val (iT (rows.foldl pMoved vs)), x']) (by simp [↓ev_lc, ↓ev_lcf, ↓ex_for, ↓ex_while, forRun, runFn, execs, exec, ev, evs, evIt, envOf, selfOf, slot, rd, rr, ofO, dcmp, dbin, dpr, dix, dsl, freshE, isTy, mkSlot, reOwn, ownD, int?, bool?, items_l, items_t, items_iT, atD, isNone, -List.map_map, e1, h5, oq, evq])).trans ex_n
theorem facts_ok (c : Int) : ∃ xs vs s1 rows s2, callk tab 29 "_law_source" [.int c, .int 2] .none = .ok (.list xs) .none ∧ callk tab 29 "_law_list" [.int 12] (.list xs) = .ok (iT vs) s1 ∧ GoodL vs ∧ callk tab 29 "_law_some_moves" [iT vs, .int 30] s1 = .ok (.tuple (rT rows)) s2 ∧ (∀ r ∈ rows, GoodSel vs r) ∧ (rows.length : Int) ≤ 30 := by
  obtain ⟨xs, h1, hs⟩ := source_ok (k := 28) hSo c 2 (by omega) (by omega)
  obtain ⟨vs, s1, h2, nd, rg, l1, l2, hs1⟩ := list_ok (k := 26) hD hCh hLi hs (most := 12) (by omega) (by omega) (by omega)
  have g : GoodL vs := ⟨l1, by omega, rg, nd⟩
  obtain ⟨rows, s2, h3, hr, l3, hs2⟩ := somemoves_ok (k := 25) hD hCh hSe hSm hs1 nd (by omega) (most := 30) (by omega) (by omega) (by omega)
  exact ⟨xs, vs, s1, rows, s2, h1, h2, g, h3, hr, l3⟩
theorem cell_ok {script : D} {c : Int} (x2 x3 x4 x5 x6 : Slot) : ∃ y2 y3 y4 y5 y6, BT.execs (callk tab 29) cellB [.val script, .val (.int c), x2, x3, x4, x5, x6] = .ok .next [.val script, .val (.int c), y2, y3, y4, y5, y6] := by
  obtain ⟨xs, vs, s1, rows, s2, h1, h2, g, h3, hr, l3⟩ := facts_ok c
  obtain ⟨x', h4⟩ := inner_ok (script := script) (cell := .int c) (s := s2) g hr (by omega) x6
  have sg : GoodSel vs (sortI vs) := sort_good g.2.2.2 (List.Sublist.refl _)
  have h5 := app (k := 24) g (rows := [sortI vs, []]) (fun r hr => by
    rcases List.mem_cons.mp hr with rfl | hr
    · exact sg
    · rw [List.mem_singleton.mp hr]; exact ⟨fun _ h => (nomatch h), List.Pairwise.nil⟩) (by show 2 ≤ 30; omega)
  have h6 : [sortI vs, []].foldl pMoved vs = vs := by
    show pMoved (pMoved vs (sortI vs)) [] = vs
    rw [pMoved_nil, pMoved_self fun v hv => (sortI_perm vs).mem_iff.mpr hv]
  rw [h6] at h5
  exact ⟨_, _, _, _, _, steps_ok x2 x3 x4 x5 x6 h1 h2 h3 (by unfold smallI; exact decide_eq_true (by omega)) h4 h5⟩
theorem law_true (ns : List Int) (h : ns.length ≤ 63) : callk tab 30 "law" [.list (ns.map PyData.int)] .none = .ok (.bool true) .none := by
  have hcut : cutD (PyData.int 0 :: ns.map PyData.int) none (some 10) = ((0 :: ns).take 10).map PyData.int := by
    refine (cut_to (xs := PyData.int 0 :: ns.map PyData.int) 10).trans ?_
    rw [← List.map_cons, List.map_take]
  have hlg : isLong (PyData.int 0 :: ns.map PyData.int) = true := by
    unfold isLong
    exact decide_eq_true (show (PyData.int 0 :: ns.map PyData.int).length ≤ 1000000 by simp; omega)
  have hf := app (k := 24) (vs := [1, 2, 3, 4, 5]) ⟨by decide, by decide, by decide, by decide⟩ (rows := [[1, 3, 4, 5], [2, 4]]) (by intro r hr; simp at hr; rcases hr with rfl | rfl <;> exact ⟨by decide, by decide⟩) (by decide)
  have hf' : callk tab (24 + 5) "apply" [.tuple [.int 1, .int 2, .int 3, .int 4, .int 5], .tuple [.tuple [.int 1, .int 3, .int 4, .int 5], .tuple [.int 2, .int 4]]] .none = .ok (.tuple [.int 4, .int 2, .int 1, .int 3, .int 5]) .none := hf
  obtain ⟨e', f1, y1, y2, y3, y4, y5, y6, rfl⟩ := for_inv (t := .v 1) (body := bodyF (callk tab 29) cellB)
    (fun i e => ∃ y1 y2 y3 y4 y5 y6 : Slot, e = [.val (.list (ns.map PyData.int)), y1, y2, y3, y4, y5, y6]) (((0 :: ns).take 10).map PyData.int)
    (fun i hi e ⟨y1, y2, y3, y4, y5, y6, he⟩ => by
      subst he
      obtain ⟨z2, z3, z4, z5, z6, hz⟩ := cell_ok (script := .list (ns.map PyData.int)) (c := ((0 :: ns).take 10)[i]'(by simpa using hi)) y2 y3 y4 y5 y6
      exact ⟨_, _, by simp only [bindT, List.getElem_map, List.set], hz, _, _, _, _, _, _, rfl⟩)
    [.val (.list (ns.map PyData.int)), .no, .no, .no, .no, .no, .no] ⟨.no, .no, .no, .no, .no, .no, rfl⟩
  rw [callk_s t_law]
  have g1 : BT.exec (callk tab 29) (.for_ (.v 1) (.e (.slu (.bin .Add (.lst (.cons (.k (.int (0))) .nil)) (.b 0)) (.k (.int (10))))) cellB) [.val (.list (ns.map PyData.int)), .no, .no, .no, .no, .no, .no] = .ok .next [.val (.list (ns.map PyData.int)), y1, y2, y3, y4, y5, y6] := by
    have f2 := f1
    simp [-List.map_map] at f2
    simp [↓ev_lc, ↓ev_lcf, ↓ex_for, ↓ex_while, forRun, runFn, execs, exec, ev, evs, evIt, envOf, selfOf, slot, rd, rr, ofO, dcmp, dbin, dpr, dix, dsl, freshE, isTy, mkSlot, reOwn, ownD, int?, bool?, items_l, items_t, items_iT, atD, isNone, -List.map_map, hcut, hlg, f2]
  have g2 : ∀ st, BT.execs (callk tab 29) (.cons (.for_ (.v 1) (.e (.slu (.bin .Add (.lst (.cons (.k (.int (0))) .nil)) (.b 0)) (.k (.int (10))))) cellB) st) [.val (.list (ns.map PyData.int)), .no, .no, .no, .no, .no, .no] = BT.execs (callk tab 29) st [.val (.list (ns.map PyData.int)), y1, y2, y3, y4, y5, y6] := fun st => ex_c g1
  unfold cellB at g2
  have he : envOf f_law [.list (ns.map PyData.int)] .none = [.val (.list (ns.map PyData.int)), .no, .no, .no, .no, .no, .no] := rfl
  unfold runFn
  rw [if_pos (show [PyData.list (ns.map PyData.int)].length = f_law.ps from rfl), he]
  have hb : f_law.body = b_law := rfl
  rw [hb]
  unfold b_law
  rw [g2]
  simp [f_law, ↓ev_lc, ↓ev_lcf, ↓ex_for, ↓ex_while, forRun, runFn, execs, exec, ev, evs, evIt, envOf, selfOf, slot, rd, rr, ofO, dcmp, dbin, dpr, dix, dsl, freshE, isTy, mkSlot, reOwn, ownD, int?, bool?, items_l, items_t, items_iT, atD, isNone, -List.map_map, hf', okEq, PyData.plain, PyData.plainAll, PyData.depth, PyData.depthAll, PyData.eqv, PyData.eqvAll]
end
end BT.Gk02
namespace BT.Gk02
open PySem PySem.Spec PyProof.Rows L2 BT
theorem c_is_between : cS 12 24 false (ccOf N_is_between (top 8) fsL ksL) (defBody (top 8)) = some b_is_between := by kernel_rfl
theorem s_is_between : FnScope N_is_between ["value", "low", "high"] (defScope (top 8)) := ⟨rfl, rfl, rfl, by decide +kernel, rfl, by decide +kernel, by decide +kernel⟩
theorem c_is_list : cS 12 24 false (ccOf N_is_list (top 9) fsL ksL) (defBody (top 9)) = some b_is_list := by kernel_rfl
theorem s_is_list : FnScope N_is_list ["value"] (defScope (top 9)) := ⟨rfl, rfl, rfl, by decide +kernel, rfl, by decide +kernel, by decide +kernel⟩
theorem c_check_list : cS 12 24 false (ccOf N_check_list (top 10) fsL ksL) (defBody (top 10)) = some b_check_list := by kernel_rfl
theorem s_check_list : FnScope N_check_list ["items"] (defScope (top 10)) := ⟨rfl, rfl, rfl, by decide +kernel, rfl, by decide +kernel, by decide +kernel⟩
theorem c_is_selection : cS 12 24 false (ccOf N_is_selection (top 11) fsL ksL) (defBody (top 11)) = some b_is_selection := by kernel_rfl
theorem s_is_selection : FnScope N_is_selection ["items", "value"] (defScope (top 11)) := ⟨rfl, rfl, rfl, by decide +kernel, rfl, by decide +kernel, by decide +kernel⟩
theorem c_are_moves : cS 12 24 false (ccOf N_are_moves (top 12) fsL ksL) (defBody (top 12)) = some b_are_moves := by kernel_rfl
theorem s_are_moves : FnScope N_are_moves ["items", "value"] (defScope (top 12)) := ⟨rfl, rfl, rfl, by decide +kernel, rfl, by decide +kernel, by decide +kernel⟩
theorem c_check_moves : cS 12 24 false (ccOf N_check_moves (top 13) fsL ksL) (defBody (top 13)) = some b_check_moves := by kernel_rfl
theorem s_check_moves : FnScope N_check_moves ["items", "moves"] (defScope (top 13)) := ⟨rfl, rfl, rfl, by decide +kernel, rfl, by decide +kernel, by decide +kernel⟩
theorem c_moved : cS 12 24 false (ccOf N_moved (top 14) fsL ksL) (defBody (top 14)) = some b_moved := by kernel_rfl
theorem s_moved : FnScope N_moved ["items", "selection"] (defScope (top 14)) := ⟨rfl, rfl, rfl, by decide +kernel, rfl, by decide +kernel, by decide +kernel⟩
theorem c_after : cS 12 24 false (ccOf N_after (top 15) fsL ksL) (defBody (top 15)) = some b_after := by kernel_rfl
theorem s_after : FnScope N_after ["items", "moves"] (defScope (top 15)) := ⟨rfl, rfl, rfl, by decide +kernel, rfl, by decide +kernel, by decide +kernel⟩
theorem c_apply : cS 12 24 false (ccOf N_apply (top 16) fsL ksL) (defBody (top 16)) = some b_apply := by kernel_rfl
theorem s_apply : FnScope N_apply ["items", "moves"] (defScope (top 16)) := ⟨rfl, rfl, rfl, by decide +kernel, rfl, by decide +kernel, by decide +kernel⟩
theorem c_law_source : cS 12 24 true (ccOf N_law_source (top 18) fsL ksL) (defBody (top 18)) = some b_law_source := by kernel_rfl
theorem s_law_source : FnScope N_law_source ["cell", "turn"] (defScope (top 18)) := ⟨rfl, rfl, rfl, by decide +kernel, rfl, by decide +kernel, by decide +kernel⟩
theorem c_law_draw : cS 12 24 false (ccOf N_law_draw (top 19) fsL ksL) (defBody (top 19)) = some b_law_draw := by kernel_rfl
theorem s_law_draw : FnScope N_law_draw ["source", "size"] (defScope (top 19)) := ⟨rfl, rfl, rfl, by decide +kernel, rfl, by decide +kernel, by decide +kernel⟩
theorem c_law_choice : cS 12 24 false (ccOf N_law_choice (top 20) fsL ksL) (defBody (top 20)) = some b_law_choice := by kernel_rfl
theorem s_law_choice : FnScope N_law_choice ["source", "items"] (defScope (top 20)) := ⟨rfl, rfl, rfl, by decide +kernel, rfl, by decide +kernel, by decide +kernel⟩
theorem c_law_kind : cS 12 24 false (ccOf N_law_kind (top 21) fsL ksL) (defBody (top 21)) = some b_law_kind := by kernel_rfl
theorem s_law_kind : FnScope N_law_kind ["value"] (defScope (top 21)) := ⟨rfl, rfl, rfl, by decide +kernel, rfl, by decide +kernel, by decide +kernel⟩
theorem c_law_equal : cS 12 24 false (ccOf N_law_equal (top 22) fsL ksL) (defBody (top 22)) = some b_law_equal := by kernel_rfl
theorem s_law_equal : FnScope N_law_equal ["value", "expected"] (defScope (top 22)) := ⟨rfl, rfl, rfl, by decide +kernel, rfl, by decide +kernel, by decide +kernel⟩
theorem c_law_list : cS 12 24 false (ccOf N_law_list (top 23) fsL ksL) (defBody (top 23)) = some b_law_list := by kernel_rfl
theorem s_law_list : FnScope N_law_list ["source", "most"] (defScope (top 23)) := ⟨rfl, rfl, rfl, by decide +kernel, rfl, by decide +kernel, by decide +kernel⟩
theorem c_law_selection : cS 12 24 false (ccOf N_law_selection (top 24) fsL ksL) (defBody (top 24)) = some b_law_selection := by kernel_rfl
theorem s_law_selection : FnScope N_law_selection ["source", "values"] (defScope (top 24)) := ⟨rfl, rfl, rfl, by decide +kernel, rfl, by decide +kernel, by decide +kernel⟩
theorem c_law_some_moves : cS 12 24 false (ccOf N_law_some_moves (top 25) fsL ksL) (defBody (top 25)) = some b_law_some_moves := by kernel_rfl
theorem s_law_some_moves : FnScope N_law_some_moves ["source", "values", "most"] (defScope (top 25)) := ⟨rfl, rfl, rfl, by decide +kernel, rfl, by decide +kernel, by decide +kernel⟩
theorem c_law_moved : cS 12 24 false (ccOf N_law_moved (top 26) fsL ksL) (defBody (top 26)) = some b_law_moved := by kernel_rfl
theorem s_law_moved : FnScope N_law_moved ["values", "selection"] (defScope (top 26)) := ⟨rfl, rfl, rfl, by decide +kernel, rfl, by decide +kernel, by decide +kernel⟩
theorem c_law : cS 12 24 false (ccOf N_law (top 27) fsL ksL) (defBody (top 27)) = some b_law := by kernel_rfl
theorem s_law : FnScope N_law ["script"] (defScope (top 27)) := ⟨rfl, rfl, rfl, by decide +kernel, rfl, by decide +kernel, by decide +kernel⟩
def d_is_between : He.DefD := ⟨("is_between", none), "is_between", "is_between", defArgs (top 8), defBody (top 8), defScope (top 8), [], []⟩
def d_is_list : He.DefD := ⟨("is_list", none), "is_list", "is_list", defArgs (top 9), defBody (top 9), defScope (top 9), [], []⟩
def d_check_list : He.DefD := ⟨("check_list", none), "check_list", "check_list", defArgs (top 10), defBody (top 10), defScope (top 10), [], []⟩
def d_is_selection : He.DefD := ⟨("is_selection", none), "is_selection", "is_selection", defArgs (top 11), defBody (top 11), defScope (top 11), [], []⟩
def d_are_moves : He.DefD := ⟨("are_moves", none), "are_moves", "are_moves", defArgs (top 12), defBody (top 12), defScope (top 12), [], []⟩
def d_check_moves : He.DefD := ⟨("check_moves", none), "check_moves", "check_moves", defArgs (top 13), defBody (top 13), defScope (top 13), [], []⟩
def d_moved : He.DefD := ⟨("moved", none), "moved", "moved", defArgs (top 14), defBody (top 14), defScope (top 14), [], []⟩
def d_after : He.DefD := ⟨("after", none), "after", "after", defArgs (top 15), defBody (top 15), defScope (top 15), [], []⟩
def d_apply : He.DefD := ⟨("apply", none), "apply", "apply", defArgs (top 16), defBody (top 16), defScope (top 16), [], []⟩
def d_law_source : He.DefD := ⟨("_law_source", none), "_law_source", "_law_source", defArgs (top 18), defBody (top 18), defScope (top 18), [], []⟩
def d_law_draw : He.DefD := ⟨("_law_draw", none), "_law_draw", "_law_draw", defArgs (top 19), defBody (top 19), defScope (top 19), [], []⟩
def d_law_choice : He.DefD := ⟨("_law_choice", none), "_law_choice", "_law_choice", defArgs (top 20), defBody (top 20), defScope (top 20), [], []⟩
def d_law_kind : He.DefD := ⟨("_law_kind", none), "_law_kind", "_law_kind", defArgs (top 21), defBody (top 21), defScope (top 21), [], []⟩
def d_law_equal : He.DefD := ⟨("_law_equal", none), "_law_equal", "_law_equal", defArgs (top 22), defBody (top 22), defScope (top 22), [], []⟩
def d_law_list : He.DefD := ⟨("_law_list", none), "_law_list", "_law_list", defArgs (top 23), defBody (top 23), defScope (top 23), [], []⟩
def d_law_selection : He.DefD := ⟨("_law_selection", none), "_law_selection", "_law_selection", defArgs (top 24), defBody (top 24), defScope (top 24), [], []⟩
def d_law_some_moves : He.DefD := ⟨("_law_some_moves", none), "_law_some_moves", "_law_some_moves", defArgs (top 25), defBody (top 25), defScope (top 25), [], []⟩
def d_law_moved : He.DefD := ⟨("_law_moved", none), "_law_moved", "_law_moved", defArgs (top 26), defBody (top 26), defScope (top 26), [], []⟩
def d_law : He.DefD := ⟨("law", none), "law", "law", defArgs (top 27), defBody (top 27), defScope (top 27), [], []⟩
def fn : List He.DefD := [d_is_between, d_is_list, d_check_list, d_is_selection, d_are_moves, d_check_moves, d_moved, d_after, d_apply, d_law_source, d_law_draw, d_law_choice, d_law_kind, d_law_equal, d_law_list, d_law_selection, d_law_some_moves, d_law_moved, d_law]
def fa : List He.Fa := [.glo "is_between", .glo "is_list", .glo "check_list", .glo "is_selection", .glo "are_moves", .glo "check_moves", .glo "moved", .glo "after", .glo "apply", .glo "_law_source", .glo "_law_draw", .glo "_law_choice", .glo "_law_kind", .glo "_law_equal", .glo "_law_list", .glo "_law_selection", .glo "_law_some_moves", .glo "_law_moved", .glo "law", .free "len", .free "abs", .free "sum", .free "all", .free "any", .free "min", .free "max", .free "sorted", .free "list", .free "tuple", .free "int", .free "bool", .free "str", .free "isinstance", .free "range", .free "enumerate", .free "zip", .free "set", .int "MAX_ITEM" (99), .int "MAX_ITEMS" (12), .int "MAX_MOVES" (30)]
abbrev R : PySem.W.OpenRow := PySem.W.OpenLaw.row PySem.Challenge.rw_batchtop_k02_moves_executed
abbrev hk : PySem.W.Hook := He.hookD 4 fa fn
def ob (s : PySem.W.SharedT) : He.AlD := He.obsDG 4 fa fn (HandSHeadRun.getT s)
theorem ob_eq (s : PySem.W.SharedT) : ob s = hk.obs s.abs := He.obsDG_eq (HandSHeadRun.getT_eq s)
def loose : List Str := ["BatchError", "InvalidList", "InvalidMoves", "MAX_ITEM", "MAX_ITEMS", "MAX_MOVES", "is_between", "is_list", "check_list", "is_selection", "are_moves", "check_moves", "moved", "after", "apply", "_law_source", "_law_draw", "_law_choice", "_law_kind", "_law_equal", "_law_list", "_law_selection", "_law_some_moves", "_law_moved"]
theorem run (w : World) : HandSHeadRun.RunEq R (PySem.W.view R.prog [27]) hk ob 4000 loose w := by
  intro os
  kernel_rfl
theorem world {K : PySem.W.Frag} {h : Heap} {mg : Str → Option Value} (X : K.In h) (G : h.Ns mainGlobals mg) (c : He.SaysD fa fn K) : Wd K mg tab fsL ksL where
  bt := all_c (He.free_ok X G (c.fact 19 (f := .free "len") rfl)) (all_c (He.free_ok X G (c.fact 20 (f := .free "abs") rfl)) (all_c (He.free_ok X G (c.fact 21 (f := .free "sum") rfl)) (all_c (He.free_ok X G (c.fact 22 (f := .free "all") rfl)) (all_c (He.free_ok X G (c.fact 23 (f := .free "any") rfl)) (all_c (He.free_ok X G (c.fact 24 (f := .free "min") rfl)) (all_c (He.free_ok X G (c.fact 25 (f := .free "max") rfl)) (all_c (He.free_ok X G (c.fact 26 (f := .free "sorted") rfl)) (all_c (He.free_ok X G (c.fact 27 (f := .free "list") rfl)) (all_c (He.free_ok X G (c.fact 28 (f := .free "tuple") rfl)) (all_c (He.free_ok X G (c.fact 29 (f := .free "int") rfl)) (all_c (He.free_ok X G (c.fact 30 (f := .free "bool") rfl)) (all_c (He.free_ok X G (c.fact 31 (f := .free "str") rfl)) (all_c (He.free_ok X G (c.fact 32 (f := .free "isinstance") rfl)) (all_c (He.free_ok X G (c.fact 33 (f := .free "range") rfl)) (all_c (He.free_ok X G (c.fact 34 (f := .free "enumerate") rfl)) (all_c (He.free_ok X G (c.fact 35 (f := .free "zip") rfl)) (all_c (He.free_ok X G (c.fact 36 (f := .free "set") rfl)) (all_n))))))))))))))))))
  kk := kk_of (all_c (k_int (He.int_ok X G (c.fact 37 (f := .int "MAX_ITEM" (99)) rfl))) (all_c (k_int (He.int_ok X G (c.fact 38 (f := .int "MAX_ITEMS" (12)) rfl))) (all_c (k_int (He.int_ok X G (c.fact 39 (f := .int "MAX_MOVES" (30)) rfl))) (all_n))))
  ff := all_c ⟨by obtain ⟨fd, F⟩ := c.def_ 0 (d := d_is_between) rfl; exact ⟨_, fd, top 8, _, N_is_between, ["value", "low", "high"], f_is_between, F, He.glo_ok X G (c.fact 0 (f := .glo "is_between") rfl), F.bindsN (fun _ _ _ _ _ _ us hl => match us, hl with | [_, _, _], _ => rfl), s_is_between, t_is_between, rfl, rfl, rfl, rfl, rfl, by decide, c_is_between⟩⟩ (
    all_c ⟨by obtain ⟨fd, F⟩ := c.def_ 1 (d := d_is_list) rfl; exact ⟨_, fd, top 9, _, N_is_list, ["value"], f_is_list, F, He.glo_ok X G (c.fact 1 (f := .glo "is_list") rfl), F.bindsN (fun _ _ _ _ _ _ us hl => match us, hl with | [_], _ => rfl), s_is_list, t_is_list, rfl, rfl, rfl, rfl, rfl, by decide, c_is_list⟩⟩ (
    all_c ⟨by obtain ⟨fd, F⟩ := c.def_ 2 (d := d_check_list) rfl; exact ⟨_, fd, top 10, _, N_check_list, ["items"], f_check_list, F, He.glo_ok X G (c.fact 2 (f := .glo "check_list") rfl), F.bindsN (fun _ _ _ _ _ _ us hl => match us, hl with | [_], _ => rfl), s_check_list, t_check_list, rfl, rfl, rfl, rfl, rfl, by decide, c_check_list⟩⟩ (
    all_c ⟨by obtain ⟨fd, F⟩ := c.def_ 3 (d := d_is_selection) rfl; exact ⟨_, fd, top 11, _, N_is_selection, ["items", "value"], f_is_selection, F, He.glo_ok X G (c.fact 3 (f := .glo "is_selection") rfl), F.bindsN (fun _ _ _ _ _ _ us hl => match us, hl with | [_, _], _ => rfl), s_is_selection, t_is_selection, rfl, rfl, rfl, rfl, rfl, by decide, c_is_selection⟩⟩ (
    all_c ⟨by obtain ⟨fd, F⟩ := c.def_ 4 (d := d_are_moves) rfl; exact ⟨_, fd, top 12, _, N_are_moves, ["items", "value"], f_are_moves, F, He.glo_ok X G (c.fact 4 (f := .glo "are_moves") rfl), F.bindsN (fun _ _ _ _ _ _ us hl => match us, hl with | [_, _], _ => rfl), s_are_moves, t_are_moves, rfl, rfl, rfl, rfl, rfl, by decide, c_are_moves⟩⟩ (
    all_c ⟨by obtain ⟨fd, F⟩ := c.def_ 5 (d := d_check_moves) rfl; exact ⟨_, fd, top 13, _, N_check_moves, ["items", "moves"], f_check_moves, F, He.glo_ok X G (c.fact 5 (f := .glo "check_moves") rfl), F.bindsN (fun _ _ _ _ _ _ us hl => match us, hl with | [_, _], _ => rfl), s_check_moves, t_check_moves, rfl, rfl, rfl, rfl, rfl, by decide, c_check_moves⟩⟩ (
    all_c ⟨by obtain ⟨fd, F⟩ := c.def_ 6 (d := d_moved) rfl; exact ⟨_, fd, top 14, _, N_moved, ["items", "selection"], f_moved, F, He.glo_ok X G (c.fact 6 (f := .glo "moved") rfl), F.bindsN (fun _ _ _ _ _ _ us hl => match us, hl with | [_, _], _ => rfl), s_moved, t_moved, rfl, rfl, rfl, rfl, rfl, by decide, c_moved⟩⟩ (
    all_c ⟨by obtain ⟨fd, F⟩ := c.def_ 7 (d := d_after) rfl; exact ⟨_, fd, top 15, _, N_after, ["items", "moves"], f_after, F, He.glo_ok X G (c.fact 7 (f := .glo "after") rfl), F.bindsN (fun _ _ _ _ _ _ us hl => match us, hl with | [_, _], _ => rfl), s_after, t_after, rfl, rfl, rfl, rfl, rfl, by decide, c_after⟩⟩ (
    all_c ⟨by obtain ⟨fd, F⟩ := c.def_ 8 (d := d_apply) rfl; exact ⟨_, fd, top 16, _, N_apply, ["items", "moves"], f_apply, F, He.glo_ok X G (c.fact 8 (f := .glo "apply") rfl), F.bindsN (fun _ _ _ _ _ _ us hl => match us, hl with | [_, _], _ => rfl), s_apply, t_apply, rfl, rfl, rfl, rfl, rfl, by decide, c_apply⟩⟩ (
    all_c ⟨by obtain ⟨fd, F⟩ := c.def_ 9 (d := d_law_source) rfl; exact ⟨_, fd, top 18, _, N_law_source, ["cell", "turn"], f_law_source, F, He.glo_ok X G (c.fact 9 (f := .glo "_law_source") rfl), F.bindsN (fun _ _ _ _ _ _ us hl => match us, hl with | [_, _], _ => rfl), s_law_source, t_law_source, rfl, rfl, rfl, rfl, rfl, by decide, c_law_source⟩⟩ (
    all_c ⟨by obtain ⟨fd, F⟩ := c.def_ 10 (d := d_law_draw) rfl; exact ⟨_, fd, top 19, _, N_law_draw, ["source", "size"], f_law_draw, F, He.glo_ok X G (c.fact 10 (f := .glo "_law_draw") rfl), F.bindsN (fun _ _ _ _ _ _ us hl => match us, hl with | [_, _], _ => rfl), s_law_draw, t_law_draw, rfl, rfl, rfl, rfl, rfl, by decide, c_law_draw⟩⟩ (
    all_c ⟨by obtain ⟨fd, F⟩ := c.def_ 11 (d := d_law_choice) rfl; exact ⟨_, fd, top 20, _, N_law_choice, ["source", "items"], f_law_choice, F, He.glo_ok X G (c.fact 11 (f := .glo "_law_choice") rfl), F.bindsN (fun _ _ _ _ _ _ us hl => match us, hl with | [_, _], _ => rfl), s_law_choice, t_law_choice, rfl, rfl, rfl, rfl, rfl, by decide, c_law_choice⟩⟩ (
    all_c ⟨by obtain ⟨fd, F⟩ := c.def_ 12 (d := d_law_kind) rfl; exact ⟨_, fd, top 21, _, N_law_kind, ["value"], f_law_kind, F, He.glo_ok X G (c.fact 12 (f := .glo "_law_kind") rfl), F.bindsN (fun _ _ _ _ _ _ us hl => match us, hl with | [_], _ => rfl), s_law_kind, t_law_kind, rfl, rfl, rfl, rfl, rfl, by decide, c_law_kind⟩⟩ (
    all_c ⟨by obtain ⟨fd, F⟩ := c.def_ 13 (d := d_law_equal) rfl; exact ⟨_, fd, top 22, _, N_law_equal, ["value", "expected"], f_law_equal, F, He.glo_ok X G (c.fact 13 (f := .glo "_law_equal") rfl), F.bindsN (fun _ _ _ _ _ _ us hl => match us, hl with | [_, _], _ => rfl), s_law_equal, t_law_equal, rfl, rfl, rfl, rfl, rfl, by decide, c_law_equal⟩⟩ (
    all_c ⟨by obtain ⟨fd, F⟩ := c.def_ 14 (d := d_law_list) rfl; exact ⟨_, fd, top 23, _, N_law_list, ["source", "most"], f_law_list, F, He.glo_ok X G (c.fact 14 (f := .glo "_law_list") rfl), F.bindsN (fun _ _ _ _ _ _ us hl => match us, hl with | [_, _], _ => rfl), s_law_list, t_law_list, rfl, rfl, rfl, rfl, rfl, by decide, c_law_list⟩⟩ (
    all_c ⟨by obtain ⟨fd, F⟩ := c.def_ 15 (d := d_law_selection) rfl; exact ⟨_, fd, top 24, _, N_law_selection, ["source", "values"], f_law_selection, F, He.glo_ok X G (c.fact 15 (f := .glo "_law_selection") rfl), F.bindsN (fun _ _ _ _ _ _ us hl => match us, hl with | [_, _], _ => rfl), s_law_selection, t_law_selection, rfl, rfl, rfl, rfl, rfl, by decide, c_law_selection⟩⟩ (
    all_c ⟨by obtain ⟨fd, F⟩ := c.def_ 16 (d := d_law_some_moves) rfl; exact ⟨_, fd, top 25, _, N_law_some_moves, ["source", "values", "most"], f_law_some_moves, F, He.glo_ok X G (c.fact 16 (f := .glo "_law_some_moves") rfl), F.bindsN (fun _ _ _ _ _ _ us hl => match us, hl with | [_, _, _], _ => rfl), s_law_some_moves, t_law_some_moves, rfl, rfl, rfl, rfl, rfl, by decide, c_law_some_moves⟩⟩ (
    all_c ⟨by obtain ⟨fd, F⟩ := c.def_ 17 (d := d_law_moved) rfl; exact ⟨_, fd, top 26, _, N_law_moved, ["values", "selection"], f_law_moved, F, He.glo_ok X G (c.fact 17 (f := .glo "_law_moved") rfl), F.bindsN (fun _ _ _ _ _ _ us hl => match us, hl with | [_, _], _ => rfl), s_law_moved, t_law_moved, rfl, rfl, rfl, rfl, rfl, by decide, c_law_moved⟩⟩ (
    all_c ⟨by obtain ⟨fd, F⟩ := c.def_ 18 (d := d_law) rfl; exact ⟨_, fd, top 27, _, N_law, ["script"], f_law, F, He.glo_ok X G (c.fact 18 (f := .glo "law") rfl), F.bindsN (fun _ _ _ _ _ _ us hl => match us, hl with | [_], _ => rfl), s_law, t_law, rfl, rfl, rfl, rfl, rfl, by decide, c_law⟩⟩ (
    all_n)))))))))))))))))))
def depth : Nat := 30
theorem facts {P : Program} {w : World} {K : PySem.W.Frag} {h : Heap} {mg : Str → Option Value} {f : Addr} (X : K.In h) (G : h.Ns mainGlobals mg) (hfa : mg ("law" : Str) = some (.ref f)) (c : He.SaysD fa fn K) :
    ∃ fd : FuncData, (∀ (s : Shared) (v : Value), BindsTo s fd ⟨[v], []⟩ [("script", v)]) ∧ ∀ base : Heap, K.In base → base.Ns mainGlobals mg → FnOk P w K mg base L2.CX0 depth f fd ["script"] (sp0 K false false 1 (callk tab depth "law")) := by
  obtain ⟨fd, F⟩ := c.def_ 18 (d := d_law) rfl
  have g := He.glo_ok X G (c.fact 18 (f := .glo "law") rfl)
  have e := hfa.symm.trans g
  cases e
  have b := FunD.bindsA (ps := ["script"]) F fun _ _ _ _ _ _ us hl => match us, hl with | [_], _ => rfl
  exact ⟨fd, fun s v => b s [v] rfl, fun base _ _ => fn_step (world X G c) (all_fn (world X G c) (depth - 1)) F s_law (fn := f_law) t_law rfl rfl (by decide) c_law⟩
end BT.Gk02
open PySem PySem.W PySem.Calls PyProof.Rows
theorem PySem.Challenge.cw_batchtop_k02_moves_executed_holds : PySem.Challenge.rw_batchtop_k02_moves_executed.Holds := by
  w_on; o_law
  refine HandSHeadRun.head_any (r := OpenLaw.row PySem.Challenge.rw_batchtop_k02_moves_executed) (q := view (OpenLaw.row PySem.Challenge.rw_batchtop_k02_moves_executed).prog [27]) (H := BT.Gk02.hk) (ob := BT.Gk02.ob) (M := 4000) (loose := BT.Gk02.loose) (d := HandSHeadRun.topDef (OpenLaw.row PySem.Challenge.rw_batchtop_k02_moves_executed).prog 27) (kwd := []) BT.Gk02.ob_eq
    (by kernel_rfl) (fun s => by kernel_rfl) BT.Gk02.run (by kernel_rfl) (by kernel_rfl) (by kernel_rfl) (by rfl) (by first | assumption | decide +kernel) (by decide +kernel) ⟨rfl, rfl, rfl, rfl, rfl, by decide +kernel⟩ ?hw ?hc
  case hw => w_witness2
  case hc =>
    refine L2.walk_ofE (l := PySem.Challenge.rw_batchtop_k02_moves_executed) (n := 63) (k := BT.Gk02.depth) (x := "script") (CX := L2.CX0) rfl (by decide) (by kernel_rfl) ⟨rfl, by decide, by decide⟩ ?F (fun _ _ _ _ z => z)
    intro w mg fa h Y G hmg0
    obtain ⟨K, KX, c⟩ := Y
    have hmg : mg ("law" : PySem.Str) = some (.ref fa) := by
      have e : (HandSHeadRun.topDef (OpenLaw.row PySem.Challenge.rw_batchtop_k02_moves_executed).prog 27).name = ("law" : PySem.Str) := by kernel_rfl
      rw [← e]
      exact hmg0
    obtain ⟨fd, hb, hF⟩ := BT.Gk02.facts (P := (PySem.Challenge.rw_batchtop_k02_moves_executed).prog) (w := w) KX G hmg c
    exact ⟨K, fd, _, KX, hb, fun H a ns hl _ hS => BT.law_sp hS hl (BT.Gk02.law_true ns hl), hF⟩
