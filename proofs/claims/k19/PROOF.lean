import PyProof.Rows.All
import Wide.All
import OpenK.AllK
import Wide.FinOn
import HandS.ForMost
import HandS.ForExc
import HandS.Flow
import HandS.IsInst
import HandS.Deep
import HandS.TupAny
import HandS.CallLocal
import HandS.TryMany
import HandS.Walk
import HandS.SortInts
import HandS.HeadHook1
import HandS.Style
import HandS.HeadHook2
import HandS.Defaults
import HandS.HeadEnd
import KE.BitLaws
import KE.KStateDown
import Lean
import HandS.Ends
import HandS.More
import HandS.Words
import HandS.WordsExc
import HandS.Head0
import HandS.Head1
import HandS.Head2
import PySem.Challenge.RW_everyswitch_k19_votes
set_option Elab.async false
set_option linter.all false
set_option maxRecDepth 100000
set_option maxHeartbeats 4000000
/-! The evaluator: data, state, what an expression and a statement come to. -/
namespace EV
open PySem L2
/-- data, without the heap -/
inductive D where
  | non | bl (b : Bool) | int (i : Int) | str (s : List Nat) | lst (xs : List D) | tup (xs : List D) | fn (i : Nat) | dct (ks vs : List D) | scr (ns : List Int)
deriving Inhabited
def D.flat : D → Bool
  | .non | .bl _ | .int _ | .str _ | .fn _ => true
  | _ => false
def D.isNon : D → Bool
  | .non => true
  | _ => false
/-- what may change once it is made -/
def D.mutb : D → Bool
  | .lst _ | .dct _ _ => true
  | _ => false
mutual
def D.py : D → Option PyData
  | .non => some .none
  | .bl b => some (.bool b)
  | .int i => some (.int i)
  | .str s => some (.str ⟨s.toArray⟩)
  | .lst xs => (D.pys xs).map .list
  | .tup xs => (D.pys xs).map .tuple
  | .fn _ => none
  | .dct _ _ => none
  | .scr _ => none
def D.pys : List D → Option (List PyData)
  | [] => some []
  | x :: xs => match D.py x, D.pys xs with
    | some p, some ps => some (p :: ps)
    | _, _ => none
end
/-- a slot: empty; data that nobody changes any more; an object that this slot alone holds -/
inductive Sl where
  | no | sh (d : D) | ow (d : D)
deriving Inhabited
abbrev Ev := List Sl
def Sl.get? : Sl → Option D
  | .no => none
  | .sh d => some d
  | .ow d => some d
def Sl.frz : Sl → Sl
  | .ow d => .sh d
  | s => s
inductive R (α : Type) where
  | ok (a : α) (e : Ev)
  | er (c : Nat) (e : Ev)
  | st
def R.bind {α β : Type} (r : R α) (f : α → Ev → R β) : R β := match r with
  | .ok a e => f a e
  | .er c e => .er c e
  | .st => .st
def R.of {α : Type} (o : Option α) (e : Ev) : R α := match o with
  | some a => .ok a e
  | none => .st
/-- what a def's call comes to, with the frame behind it -/
inductive FR where
  | ok (d : D) (fr : Bool) (e : Ev)
  | er (c : Nat) (e : Ev)
  | st
/-- what a statement comes to -/
inductive Out where
  | nx (e : Ev) | rt (d : D) (fr : Bool) (e : Ev) | bk (e : Ev) | ct (e : Ev) | er (c : Nat) (e : Ev) | st
/-! ### operations on data -/
def lineOk (n : Nat) : Bool := decide (n ≤ sizeLine)
def cMul (i j : Int) : Bool := Nat.ble i.natAbs 18446744073709551615 || Nat.ble j.natAbs 18446744073709551615
def cPow (i j : Int) : Bool := decide (0 ≤ j) && Nat.ble j.natAbs 1000000 && Nat.ble i.natAbs 18446744073709551615
def binD (op : Operator) (x y : D) : Option (D × Bool) := match op, x, y with
  | .Add, .int i, .int j => some (.int (i + j), false)
  | .Sub, .int i, .int j => some (.int (i - j), false)
  | .Mult, .int i, .int j => if cMul i j then some (.int (i * j), false) else none
  | .FloorDiv, .int i, .int j => if decide (0 < j) && Nat.ble j.natAbs 1073741823 then some (.int (i / j), false) else none
  | .Mod, .int i, .int j => if decide (0 < j) then some (.int (i % j), false) else none
  | .Pow, .int i, .int j => if cPow i j then some (.int (i ^ j.toNat), false) else none
  | .LShift, .int i, .int j => if cPow i j then some (.int (i * 2 ^ j.toNat), false) else none
  | .RShift, .int i, .int j => if decide (0 ≤ j) then some (.int (i / 2 ^ j.toNat), false) else none
  | .BitAnd, .int i, .int j => some (.int (Builtin.bitAnd i j), false)
  | .BitOr, .int i, .int j => some (.int (Builtin.bitOr i j), false)
  | .BitXor, .int i, .int j => some (.int (Builtin.bitXor i j), false)
  | .Add, .str a, .str b => if lineOk (a.length + b.length) then some (.str (a ++ b), false) else none
  | .Add, .lst a, .lst b => if lineOk (a.length + b.length) then some (.lst (a ++ b), true) else none
  | .Add, .tup a, .tup b => if lineOk (a.length + b.length) then some (.tup (a ++ b), false) else none
  | .Mult, .lst a, .int k => if Nat.ble k.natAbs 9223372036854775807 && lineOk (a.length * k.toNat) then some (.lst (List.replicate k.toNat a).flatten, true) else none
  | .Mult, .str a, .int k => if Nat.ble k.natAbs 9223372036854775807 && lineOk (a.length * k.toNat) then some (.str (List.replicate k.toNat a).flatten, false) else none
  | _, _, _ => none
def augD (op : Operator) (x y : D) : Option D := match op, x, y with
  | .Add, .int i, .int j => some (.int (i + j))
  | .Sub, .int i, .int j => some (.int (i - j))
  | .BitXor, .int i, .int j => some (.int (Builtin.bitXor i j))
  | .Add, .str a, .str b => if lineOk (a.length + b.length) then some (.str (a ++ b)) else none
  | _, _, _ => none
def unD (op : UnaryOp) (x : D) : Option D := match op, x with
  | .USub, .int i => some (.int (-i))
  | .Invert, .int i => some (.int (Builtin.bitNot i))
  | _, _ => none
/-- scalars whose == needs no look at the heap -/
def scalD : D → D → Option Bool
  | .non, .non => some true
  | .non, .int _ | .int _, .non | .non, .bl _ | .bl _, .non | .non, .str _ | .str _, .non => some false
  | .int i, .int j => some (decide (i = j))
  | .bl i, .bl j => some (decide (i = j))
  | .str i, .str j => some (decide (i = j))
  | .int _, .str _ | .str _, .int _ | .bl _, .str _ | .str _, .bl _ => some false
  | _, _ => none
def eqD (x y : D) : Option Bool := match scalD x y with
  | some b => some b
  | none => match D.py x, D.py y with
    | some p, some q => if SeqAt.shaped p && SeqAt.shaped q then some (PyData.eqv p q) else none
    | _, _ => none
def inList (x : D) (ys : List D) : Option Bool := match D.py x, D.pys ys with
  | some p, some qs => if SeqAt.shaped p && SeqAt.shaped (.list qs) then some (qs.any fun z => PyData.eqv z p) else none
  | _, _ => none
def inD (x y : D) : Option Bool := match x, y with
  | .str [c], .str z => some (decide (c ∈ z))
  | x, .lst ys => inList x ys
  | _, _ => none
def cmpD (op : CmpOp) (x y : D) : Option Bool := match op with
  | .Eq => eqD x y
  | .NotEq => (eqD x y).map (!·)
  | .Lt => match x, y with
    | .int i, .int j => some (decide (i < j))
    | _, _ => none
  | .LtE => match x, y with
    | .int i, .int j => some (decide (i ≤ j))
    | _, _ => none
  | .Gt => match x, y with
    | .int i, .int j => some (decide (j < i))
    | _, _ => none
  | .GtE => match x, y with
    | .int i, .int j => some (decide (j ≤ i))
    | _, _ => none
  | .Is => match y with
    | .non => some x.isNon
    | _ => none
  | .IsNot => match y with
    | .non => some (!x.isNon)
    | _ => none
  | .In => inD x y
  | .NotIn => (inD x y).map (!·)
def truD : D → Option Bool
  | .non => some false
  | .bl b => some b
  | .int i => some (i != 0)
  | .str s => if lineOk s.length then some (!s.isEmpty) else none
  | .lst xs => some (!xs.isEmpty)
  | .tup xs => some (!xs.isEmpty)
  | .dct ks _ => some (!ks.isEmpty)
  | .fn _ => none
  | .scr _ => none
def ixD (x y : D) : Option D := match x, y with
  | .lst xs, .int i => atI xs i
  | .tup xs, .int i => atI xs i
  | .str s, .int i => if lineOk s.length then (atI s i).map fun c => .str [c] else none
  | _, _ => none
def cutD (xs : List α) (lo hi : Option Int) : List α := (xs.drop (HT.sIx xs.length 0 lo)).take (HT.sIx xs.length xs.length hi - HT.sIx xs.length 0 lo)
def slD (x : D) (lo hi : Option Int) : Option (D × Bool) := match x with
  | .lst xs => some (.lst (cutD xs lo hi), true)
  | .tup xs => some (.tup (cutD xs lo hi), false)
  | .str s => if lineOk s.length then some (.str (cutD s lo hi), false) else none
  | _ => none
/-! ### built-ins -/
inductive Bi where
  | len | intF | strF | absF | sum | min1 | max1 | min2 | max2 | sorted | listF | tupleF
deriving DecidableEq
def ints? : List D → Option (List Int)
  | [] => some []
  | .int i :: r => (ints? r).map (i :: ·)
  | _ => none
def strs? : List D → Option (List (List Nat))
  | [] => some []
  | .str i :: r => (strs? r).map (i :: ·)
  | _ => none
def minL : List Int → Int
  | [] => 0
  | [x] => x
  | x :: r => min x (minL r)
def maxL : List Int → Int
  | [] => 0
  | [x] => x
  | x :: r => max x (maxL r)
def sortI (xs : List Int) : List Int := xs.mergeSort (fun a b => decide (a ≤ b))
def codesOf (i : Int) : List Nat := (toString i).toList.map Char.toNat
def biD (b : Bi) (xs : List D) : Option (D × Bool) := match b, xs with
  | .len, [.str s] => if lineOk s.length then some (.int s.length, false) else none
  | .len, [.lst ys] => some (.int ys.length, false)
  | .len, [.tup ys] => some (.int ys.length, false)
  | .intF, [.int i] => some (.int i, false)
  | .intF, [.str s] => if decide (s.length ≤ 640) then (PySem.intText? ⟨s.toArray⟩).map fun n => (.int n, false) else none
  | .intF, [.bl k] => some (.int (if k then 1 else 0), false)
  | .absF, [.int i] => some (.int (if i < 0 then -i else i), false)
  | .strF, [.int i] => if decide (i.natAbs.log2 < 1920) then some (.str (codesOf i), false) else none
  | .sum, [.lst ys] => (ints? ys).map fun ns => (.int ns.sum, false)
  | .min1, [.lst ys] => match ints? ys with
    | some (n :: ns) => some (.int (minL (n :: ns)), false)
    | _ => none
  | .max1, [.lst ys] => match ints? ys with
    | some (n :: ns) => some (.int (maxL (n :: ns)), false)
    | _ => none
  | .min2, [.int i, .int j] => some (.int (if j < i then j else i), false)
  | .max2, [.int i, .int j] => some (.int (if j > i then j else i), false)
  | .sorted, [.lst ys] => (ints? ys).map fun ns => (.lst ((sortI ns).map .int), true)
  | .listF, [.lst ys] => some (.lst ys, true)
  | .listF, [.tup ys] => some (.lst ys, true)
  | .tupleF, [.lst ys] => some (.tup ys, false)
  | .tupleF, [.tup ys] => some (.tup ys, false)
  | _, _ => none
inductive Ty where
  | int | bool | str | list | tuple | dict
deriving DecidableEq
def isiD (x : D) (t : Ty) : Option Bool := match x with
  | .fn _ => none
  | .scr _ => none
  | .non => some false
  | .bl _ => some (match t with | .bool => true | .int => true | _ => false)
  | .int _ => some (match t with | .int => true | _ => false)
  | .str _ => some (match t with | .str => true | _ => false)
  | .lst _ => some (match t with | .list => true | _ => false)
  | .tup _ => some (match t with | .tuple => true | _ => false)
  | .dct _ _ => some (match t with | .dict => true | _ => false)
/-- methods that change nothing -/
inductive Me where
  | join
deriving DecidableEq
def meD (m : Me) (x : D) (xs : List D) : Option (D × Bool) := match m, x, xs with
  | .join, .str s, [.lst ys] => match strs? ys with
    | some zs => if lineOk ((zs.map (·.length)).sum + zs.length * s.length) then some (.str (TL.joinL s zs), false) else none
    | none => none
  | _, _, _ => none
/-- of which kind the receiver is -/
def meTy (m : Me) (x : D) : Bool := match m, x with
  | .join, .str _ => true
  | _, _ => false
/-- methods that change their list, told of what it holds -/
inductive Mu where
  | append | pop
deriving DecidableEq
/-- the new content, the answer -/
def muD (m : Mu) (x : D) (xs : List D) : Option (D × D) := match m, x, xs with
  | .append, .lst ys, [y] => if decide (ys.length < sizeLine) then some (.lst (ys ++ [y]), .non) else none
  | .pop, .lst ys, [] => match ys[ys.length - 1]? with
    | some y => some (.lst ys.dropLast, y)
    | none => none
  | _, _, _ => none
def muTy (m : Mu) (x : D) : Bool := match m, x with
  | .append, .lst _ => true
  | .pop, .lst _ => true
  | _, _ => false
def muOk (m : Mu) (e : Ev) (i : Nat) : Bool := match e.getD i .no with
  | .ow d => muTy m d
  | _ => false
/-- x[i] = y, told of what x holds -/
def setD (x i y : D) : Option D := match x, i with
  | .lst ys, .int k => (ixN ys.length k).map fun j => .lst (ys.set j y)
  | _, _ => none
/-! ### the text -/
inductive Tg where
  | nm (i : Nat) | tp (is : List Nat)
inductive SE where
  | var (i : Nat) | lit (d : D) | glo (g : Nat) | fnv (f : Nat)
  | bin (op : Operator) (a b : SE) | una (op : UnaryOp) (a : SE) | cmp (op : CmpOp) (a b : SE) | cmp2 (o p : CmpOp) (a b c : SE)
  | and (a b : SE) | or (a b : SE) | not (a : SE) | ife (c a b : SE)
  | lst (xs : SE) | tup (xs : SE) | ix (a b : SE) | sl (a lo hi : SE)
  | call (f : Nat) (xs : SE) | callv (i : Nat) (xs : SE) | bi (b : Bi) (xs : SE) | isi (a : SE) (t : Ty) | me (m : Me) (r xs : SE) | mu (m : Mu) (i : Nat) (xs : SE)
  | comp (e : SE) (tg : Tg) (it : SE) (c : SE) (own : List (Str × Nat))
  | rng1 (a : SE) | rng2 (a b : SE)
  | nop | nil | cons (a xs : SE)
inductive SS where
  | skip | seq (s r : SS)
  | expr (e : SE) | asg (i : Nat) (e : SE) | asgT (is : List Nat) (e : SE) | asgI (i : Nat) (k e : SE) | aug (i : Nat) (op : Operator) (e : SE)
  | ret (e : SE) | retN | cond (c : SE) (a b : SS) | forS (tg : Tg) (it : SE) (b : SS) | whil (c : SE) (b : SS)
  | brk | cont | raise (c : Nat) | tryS (b : SS) (hs : SS) | hnd (c : Nat) (s r : SS)
structure Fn where
  name : Str
  np : Nat
  N : List Str
  io : List Bool
  body : SS
structure Cfg where
  fns : List Fn
  exs : List Str
  sub : List (List Bool)
  glos : List (Str × D)
  fuel : Nat
/-! ### what is borrowed -/
inductive Bor where
  | dat (d : D) | slot (i : Nat)
def Bor.res (e : Ev) : Bor → Option D
  | .dat d => some d
  | .slot i => (e.getD i .no).get?
def Bor.frz (e : Ev) : Bor → Ev
  | .dat _ => e
  | .slot i => e.set i (e.getD i .no).frz
def ress (e : Ev) : List Bor → Option (List D)
  | [] => some []
  | b :: r => match b.res e, ress e r with
    | some d, some ds => some (d :: ds)
    | _, _ => none
def frzs (e : Ev) : List Bor → Ev
  | [] => e
  | b :: r => frzs (b.frz e) r
/-! ### calls -/
/-- the slots that are handed on, the caller's frame meanwhile -/
def mkArgs : Ev → List Bool → List Bor → Option (List Sl × Ev)
  | e, _, [] => some ([], e)
  | e, true :: io, .slot i :: r => match e.getD i .no with
    | .ow d => (mkArgs (e.set i .no) io r).map fun z => (.ow d :: z.1, z.2)
    | _ => none
  | _, true :: _, .dat _ :: _ => none
  | e, false :: io, b :: r => match b.res e with
    | some d => (mkArgs (b.frz e) io r).map fun z => (.sh d :: z.1, z.2)
    | none => none
  | e, [], b :: r => match b.res e with
    | some d => (mkArgs (b.frz e) [] r).map fun z => (.sh d :: z.1, z.2)
    | none => none
/-- what was handed on comes back -/
def putIos (e' : Ev) : Ev → Nat → List Bool → List Bor → Ev
  | e, _, _, [] => e
  | e, j, true :: io, .slot i :: r => putIos e' (e.set i (e'.getD j .no)) (j + 1) io r
  | e, j, true :: io, .dat _ :: r => putIos e' e (j + 1) io r
  | e, j, false :: io, _ :: r => putIos e' e (j + 1) io r
  | e, j, [], _ :: r => putIos e' e (j + 1) [] r
def doCall (call : Nat → List Sl → FR) (io : List Bool) (f : Nat) (bs : List Bor) (e : Ev) : R (D × Bool) := match mkArgs e io bs with
  | none => .st
  | some (sls, ec) => match call f sls with
    | .st => .st
    | .er c e' => .er c (putIos e' ec 0 io bs)
    | .ok d fr e' => if d.flat && !(io.any id) then .ok (d, fr) e else .ok (d, fr) (putIos e' ec 0 io bs)
/-! ### targets -/
def mkSl (d : D) (fr : Bool) : Sl := if fr && d.mutb then .ow d else .sh d
def setAll : List Nat → List D → Ev → Option Ev
  | [], [], e => some e
  | i :: is, d :: ds, e => setAll is ds (e.set i (.sh d))
  | _, _, _ => none
def tgD (tg : Tg) (d : D) (e : Ev) : Option Ev := match tg with
  | .nm i => some (e.set i (.sh d))
  | .tp is => match d with
    | .tup ds => setAll is ds e
    | _ => none
def wipeE (e : Ev) : List Nat → Ev
  | [] => e
  | v :: vs => (wipeE e vs).set v .no
def putBack (e e0 : Ev) : List Nat → Ev
  | [] => e
  | v :: vs => (putBack e e0 vs).set v (e0.getD v .no)
/-- what a walk over data gives -/
def itemsD : D → Option (List D)
  | .lst xs => some xs
  | .tup xs => some xs
  | .str s => some (s.map fun c => .str [c])
  | .scr ns => some (ns.map .int)
  | _ => none
def rngL (i : Int) : Nat → List D
  | 0 => []
  | n + 1 => .int i :: rngL (i + 1) n
def smallI (i : Int) : Bool := Nat.ble i.natAbs 4611686018427387903
/-! ### loops -/
def compL (vs : List Nat) (tg : Tg) (test : Ev → R Bool) (elt : Ev → R (D × Bool)) : List D → List D → Ev → R (List D)
  | [], acc, e => .ok acc (wipeE e vs)
  | d :: ds, acc, e => match tgD tg d (wipeE e vs) with
    | none => .st
    | some e1 => match test e1 with
      | .ok true e2 => match elt e2 with
        | .ok y e3 => if decide (acc.length < sizeLine) then compL vs tg test elt ds (acc ++ [y.1]) e3 else .st
        | _ => .st
      | .ok false e2 => compL vs tg test elt ds acc e2
      | _ => .st
def forL (tg : Tg) (body : Ev → Out) : List D → Ev → Out
  | [], e => .nx e
  | d :: ds, e => match tgD tg d e with
    | none => .st
    | some e1 => match body e1 with
      | .nx e2 => forL tg body ds e2
      | .ct e2 => forL tg body ds e2
      | .bk e2 => .nx e2
      | o => o
def whileL (test : Ev → R Bool) (body : Ev → Out) : Nat → Ev → Out
  | 0, _ => .st
  | n + 1, e => match test e with
    | .ok true e1 => match body e1 with
      | .nx e2 => whileL test body n e2
      | .ct e2 => whileL test body n e2
      | .bk e2 => .nx e2
      | o => o
    | .ok false e1 => .nx e1
    | .er c e1 => .er c e1
    | .st => .st
/-! ### expressions -/
structure EvR where
  f : Ev → R (D × Bool)
  t : Ev → R Bool
  b : Ev → R Bor
  bs : Ev → R (List Bor)
  o : Ev → R (Option Int)
  i : Ev → R (List D)
def ofF (f : Ev → R (D × Bool)) : EvR where
  f := f
  t := fun e => (f e).bind fun x e1 => R.of (truD x.1) e1
  b := fun e => (f e).bind fun x e1 => .ok (.dat x.1) e1
  bs := fun _ => .st
  o := fun e => (f e).bind fun x e1 => match x.1 with
    | .int i => .ok (some i) e1
    | _ => .st
  i := fun e => (f e).bind fun x e1 => R.of (itemsD x.1) e1
def noR : EvR where
  f := fun _ => .st
  t := fun _ => .st
  b := fun _ => .st
  bs := fun _ => .st
  o := fun _ => .st
  i := fun _ => .st
/-- two borrowed operands -/
def with2 (A B : EvR) (e : Ev) (k : D → D → Ev → R (D × Bool)) : R (D × Bool) := (A.b e).bind fun x e1 => (B.b e1).bind fun y e2 => match x.res e2, y.res e2 with
  | some d, some d' => k d d' e2
  | _, _ => .st
def with1 {α : Type} (A : EvR) (e : Ev) (k : D → Ev → R α) : R α := (A.b e).bind fun x e1 => match x.res e1 with
  | some d => k d e1
  | none => .st
def withs {α : Type} (A : EvR) (e : Ev) (k : List D → List Bor → Ev → R α) : R α := (A.bs e).bind fun bs e1 => match ress e1 bs with
  | some ds => k ds bs e1
  | none => .st
def bl2 (o : Option Bool) (e : Ev) : R (D × Bool) := R.of (o.map fun k => (.bl k, false)) e
def dat (o : Option D) (e : Ev) : R (D × Bool) := R.of (o.map fun d => (d, false)) e
section
variable (G : Cfg) (call : Nat → List Sl → FR)
def goCall (f : Nat) (bs : List Bor) (e : Ev) : R (D × Bool) := match G.fns[f]? with
  | some fi => if fi.np = bs.length then doCall call fi.io f bs e else .st
  | none => .st
def evR : SE → EvR
  | .var i => { ofF (fun e => match e.getD i .no with
      | .no => .st
      | .sh d => .ok (d, false) e
      | .ow d => .ok (d, false) (e.set i (.sh d))) with
    t := fun e => match (e.getD i .no).get? with
      | some d => R.of (truD d) e
      | none => .st
    b := fun e => match e.getD i .no with
      | .no => .st
      | .sh d => .ok (.dat d) e
      | .ow _ => .ok (.slot i) e }
  | .lit d => ofF fun e => .ok (d, false) e
  | .glo g => ofF fun e => match G.glos[g]? with
    | some p => .ok (p.2, false) e
    | none => .st
  | .fnv f => ofF fun e => .ok (.fn f, false) e
  | .bin op a b => ofF fun e => with2 (evR a) (evR b) e fun d d' e2 => R.of (binD op d d') e2
  | .una op a => ofF fun e => with1 (evR a) e fun d e1 => dat (unD op d) e1
  | .cmp op a b => ofF fun e => with2 (evR a) (evR b) e fun d d' e2 => bl2 (cmpD op d d') e2
  | .cmp2 o p a b c => ofF fun e => ((evR a).b e).bind fun x e1 => ((evR b).b e1).bind fun y e2 => match x.res e2, y.res e2 with
    | some d, some d' => match cmpD o d d' with
      | some true => ((evR c).b e2).bind fun z e3 => match y.res e3, z.res e3 with
        | some d1, some d2 => bl2 (cmpD p d1 d2) e3
        | _, _ => .st
      | some false => .ok (.bl false, false) e2
      | none => .st
    | _, _ => .st
  | .and a b => { ofF (fun e => ((evR a).f e).bind fun x e1 => match truD x.1 with
      | some true => (evR b).f e1
      | some false => .ok x e1
      | none => .st) with
    t := fun e => ((evR a).t e).bind fun k e1 => match k with
      | true => (evR b).t e1
      | false => .ok false e1 }
  | .or a b => { ofF (fun e => ((evR a).f e).bind fun x e1 => match truD x.1 with
      | some true => .ok x e1
      | some false => (evR b).f e1
      | none => .st) with
    t := fun e => ((evR a).t e).bind fun k e1 => match k with
      | true => .ok true e1
      | false => (evR b).t e1 }
  | .not a => { ofF (fun e => with1 (evR a) e fun d e1 => bl2 ((truD d).map (!·)) e1) with
    t := fun e => ((evR a).t e).bind fun k e1 => .ok (!k) e1 }
  | .ife c a b => { ofF (fun e => ((evR c).t e).bind fun k e1 => match k with
      | true => (evR a).f e1
      | false => (evR b).f e1) with
    t := fun e => ((evR c).t e).bind fun k e1 => match k with
      | true => (evR a).t e1
      | false => (evR b).t e1 }
  | .lst xs => ofF fun e => withs (evR xs) e fun ds bs e1 => if lineOk ds.length then .ok (.lst ds, true) (frzs e1 bs) else .st
  | .tup xs => ofF fun e => withs (evR xs) e fun ds bs e1 => if lineOk ds.length then .ok (.tup ds, false) (frzs e1 bs) else .st
  | .ix a b => ofF fun e => with2 (evR a) (evR b) e fun d d' e2 => dat (ixD d d') e2
  | .sl a lo hi => ofF fun e => ((evR a).b e).bind fun x e1 => ((evR lo).o e1).bind fun l e2 => ((evR hi).o e2).bind fun h e3 => match x.res e3 with
    | some d => R.of (slD d l h) e3
    | none => .st
  | .call f xs => ofF fun e => ((evR xs).bs e).bind fun bs e1 => goCall G call f bs e1
  | .callv i xs => ofF fun e => match e.getD i .no with
    | .sh (.fn f) => match G.fns[f]? with
      | some _ => ((evR xs).bs e).bind fun bs e1 => goCall G call f bs e1
      | none => .st
    | _ => .st
  | .bi b xs => ofF fun e => withs (evR xs) e fun ds _ e1 => R.of (biD b ds) e1
  | .isi a t => ofF fun e => with1 (evR a) e fun d e1 => bl2 (isiD d t) e1
  | .me m r xs => ofF fun e => ((evR r).b e).bind fun x e1 => match x.res e1 with
    | some d0 => if meTy m d0 then ((evR xs).bs e1).bind fun bs e2 => match x.res e2, ress e2 bs with
        | some d, some ds => R.of (meD m d ds) e2
        | _, _ => .st
      else .st
    | none => .st
  | .mu m i xs => ofF fun e => if muOk m e i then ((evR xs).bs e).bind fun bs e1 => match ress e1 bs with
      | some ds => match (frzs e1 bs).getD i .no with
        | .ow d => match muD m d ds with
          | some (d', r) => .ok (r, false) ((frzs e1 bs).set i (.ow d'))
          | none => .st
        | _ => .st
      | none => .st
    else .st
  | .comp el tg it c own => ofF fun e => ((evR it).i e).bind fun ds e1 =>
      (compL (own.map (·.2)) tg (evR c).t (evR el).f ds [] e1).bind fun ys e2 => .ok (.lst ys, true) (putBack e2 e1 (own.map (·.2)))
  | .rng1 a => { noR with i := fun e => ((evR a).f e).bind fun x e1 => match x.1 with
      | .int j => if smallI j then .ok (rngL 0 j.toNat) e1 else .st
      | _ => .st }
  | .rng2 a b => { noR with i := fun e => ((evR a).f e).bind fun x e1 => ((evR b).f e1).bind fun y e2 => match x.1, y.1 with
      | .int i, .int j => if smallI i && smallI j then .ok (rngL i (j - i).toNat) e2 else .st
      | _, _ => .st }
  | .nop => { noR with t := fun e => .ok true e, o := fun e => .ok none e }
  | .nil => { noR with bs := fun e => .ok [] e }
  | .cons a xs => { noR with bs := fun e => ((evR a).b e).bind fun b e1 => ((evR xs).bs e1).bind fun bs e2 => .ok (b :: bs) e2 }
/-! ### statements -/
def isHd (h c : Nat) : Bool := (G.sub.getD c []).getD h false
def R.out {α : Type} (r : R α) (k : α → Ev → Out) : Out := match r with
  | .ok a e => k a e
  | .er c e => .er c e
  | .st => .st
/-- io: the slots that a caller handed on, never stored anew -/
def ioAt (io : List Bool) (i : Nat) : Bool := io.getD i false
def tgOk (io : List Bool) : Tg → Bool
  | .nm i => !ioAt io i
  | .tp is => is.all fun i => !ioAt io i
structure ExR where
  x : Ev → Out
  /-- the clauses of a try: what is raised, the frame -/
  h : Nat → Ev → Out
def ofX (x : Ev → Out) : ExR := ⟨x, fun _ _ => .st⟩
def exR (io : List Bool) : SS → ExR
  | .skip => ⟨fun e => .nx e, fun c e => .er c e⟩
  | .seq s r => ofX fun e => match (exR io s).x e with
    | .nx e1 => (exR io r).x e1
    | o => o
  | .expr a => ofX fun e => ((evR G call a).f e).out fun _ e1 => .nx e1
  | .asg i a => ofX fun e => if ioAt io i then .st else ((evR G call a).f e).out fun x e1 => .nx (e1.set i (mkSl x.1 x.2))
  | .asgT is a => ofX fun e => if is.all (fun i => !ioAt io i) then ((evR G call a).f e).out fun x e1 => match tgD (.tp is) x.1 e1 with
      | some e2 => .nx e2
      | none => .st
    else .st
  | .asgI i k a => ofX fun e => ((evR G call a).b e).out fun y e1 => match e1.getD i .no with
    | .ow _ => ((evR G call k).f e1).out fun j e2 => match y.res e2 with
      | some d => match (y.frz e2).getD i .no with
        | .ow c => match setD c j.1 d with
          | some c' => .nx ((y.frz e2).set i (.ow c'))
          | none => .st
        | _ => .st
      | none => .st
    | _ => .st
  | .aug i op a => ofX fun e => if ioAt io i then .st else match e.getD i .no with
    | .sh d => ((evR G call a).f e).out fun x e1 => (R.of (augD op d x.1) e1).out fun z e2 => .nx (e2.set i (.sh z))
    | _ => .st
  | .ret a => ofX fun e => match a with
    | .var i => if ioAt io i then ((evR G call a).f e).out fun x e1 => .rt x.1 x.2 e1 else match e.getD i .no with
      | .no => .st
      | .sh d => .rt d false e
      | .ow d => .rt d true (e.set i .no)
    | _ => ((evR G call a).f e).out fun x e1 => .rt x.1 x.2 e1
  | .retN => ofX fun e => .rt .non false e
  | .cond c a b => ofX fun e => ((evR G call c).t e).out fun k e1 => match k with
    | true => (exR io a).x e1
    | false => (exR io b).x e1
  | .forS tg it b => ofX fun e => if tgOk io tg then ((evR G call it).i e).out fun ds e1 => forL tg (exR io b).x ds e1 else .st
  | .whil c b => ofX fun e => whileL (evR G call c).t (exR io b).x G.fuel e
  | .brk => ofX fun e => .bk e
  | .cont => ofX fun e => .ct e
  | .raise c => ofX fun e => .er c e
  | .tryS b hs => ofX fun e => match (exR io b).x e with
    | .er c e1 => (exR io hs).h c e1
    | o => o
  | .hnd c s r => ⟨fun _ => .st, fun c' e => if c' < G.exs.length then (if isHd G c c' then (match (exR io s).x e with
      | .er _ _ => .st
      | o => o) else (exR io r).h c' e) else .st⟩
end
/-- a def's call, to the depth k -/
def fnEval (G : Cfg) : Nat → Nat → List Sl → FR
  | 0, _, _ => .st
  | k + 1, f, sls => match G.fns[f]? with
    | none => .st
    | some fi => if fi.np = sls.length then match (exR G (fnEval G k) fi.io fi.body).x (sls ++ List.replicate (fi.N.length - sls.length) .no) with
        | .rt d fr e => .ok d fr e
        | .nx e => .ok .non false e
        | .er c e => .er c e
        | _ => .st
      else .st
end EV
/-! The relation between the evaluator's state and the abstract heap. -/
namespace EV
open PySem L2
abbrev Le (F F' : Hp) : Prop := ∀ a o, F a = some o → F' a = some o
theorem Le.refl (F : Hp) : Le F F := fun _ _ h => h
theorem Le.trans {F F1 F2 : Hp} (a : Le F F1) (b : Le F1 F2) : Le F F2 := fun _ _ h => b _ _ (a _ _ h)
theorem Le.upd {F : Hp} {p : Addr} {o : HO} (h : F p = none) : Le F (upd F p o) := fun b x e => by
  rw [upd_ne (ne_of_none e h)]
  exact e
theorem Rd.le {F F' : Hp} {a : Addr} {u : HO} (l : Le F F') (h : Rd F a u) : Rd F' a u := by
  rcases h with h | ⟨o, h⟩
  · exact .inl (l _ _ h)
  · exact .inr ⟨o, l _ _ h⟩
/-- the keys of a dict -/
def keyD : D → Option Key
  | .int i => some (.inl i)
  | .str s => some (.inr ⟨s.toArray⟩)
  | _ => none
def keysD : List D → Option (List Key)
  | [] => some []
  | d :: ds => match keyD d, keysD ds with
    | some k, some ks => some (k :: ks)
    | _, _ => none
section
variable (K : PySem.W.Frag) (fa : Nat → Addr)
mutual
/-- v is the data d, by objects of F that nobody changes any more -/
def DR (F : Hp) : D → V → Prop
  | .non, v => v = .non
  | .bl b, v => v = .bl b
  | .int i, v => v = .int i
  | .str s, v => v = .str ⟨s.toArray⟩
  | .fn i, v => v = .ref (fa i)
  | .scr ns, v => ∃ a, v = .ref a ∧ SqL K F a (ns.map V.int)
  | .lst ds, v => ∃ a vs, v = .ref a ∧ F a = some (.lst vs) ∧ DRs F ds vs
  | .tup ds, v => ∃ a vs, v = .ref a ∧ SqT K F a vs ∧ DRs F ds vs
  | .dct ks ds, v => ∃ a kvs, v = .ref a ∧ F a = some (.dK kvs) ∧ keysD ks = some (kvs.map (·.1)) ∧ DRs F ds (kvs.map (·.2))
def DRs (F : Hp) : List D → List V → Prop
  | [], vs => vs = []
  | d :: ds, vs => ∃ v r, vs = v :: r ∧ DR F d v ∧ DRs F ds r
end
/-- o is an object with the content d -/
def OR (F : Hp) : D → HO → Prop
  | .lst ds, o => ∃ vs, o = .lst vs ∧ DRs K fa F ds vs
  | .tup ds, o => ∃ vs, o = .tup vs ∧ DRs K fa F ds vs
  | .dct ks ds, o => ∃ kvs, o = .dK kvs ∧ keysD ks = some (kvs.map (·.1)) ∧ DRs K fa F ds (kvs.map (·.2))
  | _, _ => False
/-- d is what may be read of v now: the outermost object may change later -/
def CR (F H : Hp) : D → V → Prop
  | .lst ds, v => ∃ a vs, v = .ref a ∧ H a = some (.lst vs) ∧ DRs K fa F ds vs
  | .dct ks ds, v => ∃ a kvs, v = .ref a ∧ H a = some (.dK kvs) ∧ keysD ks = some (kvs.map (·.1)) ∧ DRs K fa F ds (kvs.map (·.2))
  | d, v => DR K fa F d v
end
section
variable {K : PySem.W.Frag} {fa : Nat → Addr} {F F' H : Hp}
theorem SqL.le {a : Addr} {vs : List V} (l : Le F F') (h : SqL K F a vs) : SqL K F' a vs := by
  rcases h with h | h
  · exact .inl (Rd.le l h)
  · exact .inr h
theorem SqT.le {a : Addr} {vs : List V} (l : Le F F') (h : SqT K F a vs) : SqT K F' a vs := by
  rcases h with h | h
  · exact .inl (Rd.le l h)
  · exact .inr h
mutual
theorem DR.le (l : Le F F') : ∀ (d : D) (v : V), DR K fa F d v → DR K fa F' d v
  | .non, v, h => by simpa only [DR] using h
  | .bl b, v, h => by simpa only [DR] using h
  | .int i, v, h => by simpa only [DR] using h
  | .str s, v, h => by simpa only [DR] using h
  | .fn i, v, h => by simpa only [DR] using h
  | .scr ns, v, h => by
    simp only [DR] at h ⊢
    obtain ⟨a, e, s⟩ := h
    exact ⟨a, e, SqL.le l s⟩
  | .lst ds, v, h => by
    simp only [DR] at h ⊢
    obtain ⟨a, vs, e, s, r⟩ := h
    exact ⟨a, vs, e, l _ _ s, DRs.le l ds vs r⟩
  | .tup ds, v, h => by
    simp only [DR] at h ⊢
    obtain ⟨a, vs, e, s, r⟩ := h
    exact ⟨a, vs, e, SqT.le l s, DRs.le l ds vs r⟩
  | .dct ks ds, v, h => by
    simp only [DR] at h ⊢
    obtain ⟨a, kvs, e, s, k, r⟩ := h
    exact ⟨a, kvs, e, l _ _ s, k, DRs.le l ds _ r⟩
theorem DRs.le (l : Le F F') : ∀ (ds : List D) (vs : List V), DRs K fa F ds vs → DRs K fa F' ds vs
  | [], vs, h => by simpa only [DRs] using h
  | d :: ds, vs, h => by
    simp only [DRs] at h ⊢
    obtain ⟨v, r, e, h1, h2⟩ := h
    exact ⟨v, r, e, DR.le l d v h1, DRs.le l ds r h2⟩
end
theorem OR.le (l : Le F F') {d : D} {o : HO} (h : OR K fa F d o) : OR K fa F' d o := by
  cases d <;> simp only [OR] at h ⊢
  · obtain ⟨vs, e, r⟩ := h
    exact ⟨vs, e, DRs.le l _ _ r⟩
  · obtain ⟨vs, e, r⟩ := h
    exact ⟨vs, e, DRs.le l _ _ r⟩
  · obtain ⟨vs, e, k, r⟩ := h
    exact ⟨vs, e, k, DRs.le l _ _ r⟩
theorem DRs.nil : DRs K fa F [] [] := by simp only [DRs]
theorem DRs.cons {d : D} {ds : List D} {v : V} {vs : List V} (h : DR K fa F d v) (h2 : DRs K fa F ds vs) : DRs K fa F (d :: ds) (v :: vs) := by
  simp only [DRs]
  exact ⟨v, vs, rfl, h, h2⟩
theorem DRs.length : ∀ {ds : List D} {vs : List V}, DRs K fa F ds vs → ds.length = vs.length
  | [], vs, h => by
    simp only [DRs] at h
    rw [h] <;> rfl
  | d :: ds, vs, h => by
    simp only [DRs] at h
    obtain ⟨v, r, e, h1, h2⟩ := h
    rw [e, List.length_cons, List.length_cons, DRs.length h2]
theorem DRs.get : ∀ {ds : List D} {vs : List V} {i : Nat} {d : D}, DRs K fa F ds vs → ds[i]? = some d → ∃ v, vs[i]? = some v ∧ DR K fa F d v
  | [], vs, i, d, h, e => by simp at e
  | d :: ds, vs, i, d', h, e => by
    simp only [DRs] at h
    obtain ⟨v, r, e1, h1, h2⟩ := h
    subst e1
    cases i with
    | zero =>
      simp at e
      subst e
      exact ⟨v, rfl, h1⟩
    | succ i =>
      simp at e
      obtain ⟨w, q1, q2⟩ := DRs.get (i := i) h2 e
      exact ⟨w, by simpa using q1, q2⟩
theorem DRs.getV : ∀ {ds : List D} {vs : List V} {i : Nat} {v : V}, DRs K fa F ds vs → vs[i]? = some v → ∃ d, ds[i]? = some d ∧ DR K fa F d v
  | [], vs, i, v, h, e => by
    simp only [DRs] at h
    subst h
    simp at e
  | d :: ds, vs, i, v', h, e => by
    simp only [DRs] at h
    obtain ⟨v, r, e1, h1, h2⟩ := h
    subst e1
    cases i with
    | zero =>
      simp at e
      subst e
      exact ⟨d, rfl, h1⟩
    | succ i =>
      simp at e
      obtain ⟨w, q1, q2⟩ := DRs.getV (i := i) h2 e
      exact ⟨w, by simpa using q1, q2⟩
theorem DRs.append : ∀ {ds es : List D} {vs ws : List V}, DRs K fa F ds vs → DRs K fa F es ws → DRs K fa F (ds ++ es) (vs ++ ws)
  | [], es, vs, ws, h, h2 => by
    simp only [DRs] at h
    subst h
    exact h2
  | d :: ds, es, vs, ws, h, h2 => by
    simp only [DRs] at h
    obtain ⟨v, r, e1, h1, h3⟩ := h
    subst e1
    exact DRs.cons h1 (DRs.append h3 h2)
theorem DRs.take : ∀ {ds : List D} {vs : List V} (n : Nat), DRs K fa F ds vs → DRs K fa F (ds.take n) (vs.take n)
  | [], vs, n, h => by
    simp only [DRs] at h
    subst h
    simp [DRs]
  | d :: ds, vs, n, h => by
    simp only [DRs] at h
    obtain ⟨v, r, e1, h1, h3⟩ := h
    subst e1
    cases n with
    | zero => simp [DRs]
    | succ n => exact DRs.cons h1 (DRs.take n h3)
theorem DRs.drop : ∀ {ds : List D} {vs : List V} (n : Nat), DRs K fa F ds vs → DRs K fa F (ds.drop n) (vs.drop n)
  | [], vs, n, h => by
    simp only [DRs] at h
    subst h
    simp [DRs]
  | d :: ds, vs, n, h => by
    have h0 := h
    simp only [DRs] at h
    obtain ⟨v, r, e1, h1, h3⟩ := h
    subst e1
    cases n with
    | zero => exact h0
    | succ n => exact DRs.drop n h3
theorem DRs.set : ∀ {ds : List D} {vs : List V} {d : D} {v : V} (n : Nat), DR K fa F d v → DRs K fa F ds vs → DRs K fa F (ds.set n d) (vs.set n v)
  | [], vs, d, v, n, h, h2 => by
    simp only [DRs] at h2
    subst h2
    simp [DRs]
  | d :: ds, vs, d', v', n, h, h2 => by
    simp only [DRs] at h2
    obtain ⟨v, r, e1, h1, h3⟩ := h2
    subst e1
    cases n with
    | zero => exact DRs.cons h h3
    | succ n => exact DRs.cons h1 (DRs.set n h h3)
theorem DRs.dropLast {ds : List D} {vs : List V} (h : DRs K fa F ds vs) : DRs K fa F ds.dropLast vs.dropLast := by
  rw [List.dropLast_eq_take, List.dropLast_eq_take, DRs.length h]
  exact DRs.take _ h
theorem DRs.rep {ds : List D} {vs : List V} (h : DRs K fa F ds vs) : ∀ k : Nat, DRs K fa F (List.replicate k ds).flatten (List.replicate k vs).flatten
  | 0 => by simp [DRs]
  | k + 1 => by
    rw [List.replicate_succ, List.replicate_succ, List.flatten_cons, List.flatten_cons]
    exact DRs.append h (DRs.rep h k)
theorem DR.flat_le {d : D} {v : V} (hd : d.flat = true) (h : DR K fa F d v) (F' : Hp) : DR K fa F' d v := by
  cases d <;> first
    | exact absurd hd Bool.false_ne_true
    | (simp only [DR] at h ⊢; exact h)
/-- what is data is readable -/
theorem DR.cr {d : D} {v : V} (l : Le F H) (h : DR K fa F d v) : CR K fa F H d v := by
  cases d <;> simp only [CR] <;> first
    | exact h
    | (simp only [DR] at h
       obtain ⟨a, vs, e, s, r⟩ := h
       exact ⟨a, vs, e, l _ _ s, r⟩)
theorem CR.le {H' : Hp} {d : D} {v : V} (l : Le F F') (l2 : Le H H') (h : CR K fa F H d v) : CR K fa F' H' d v := by
  cases d <;> simp only [CR] at h ⊢
  case lst =>
    obtain ⟨a, vs, e, s, r⟩ := h
    exact ⟨a, vs, e, l2 _ _ s, DRs.le l _ _ r⟩
  case dct =>
    obtain ⟨a, kvs, e, s, k, r⟩ := h
    exact ⟨a, kvs, e, l2 _ _ s, k, DRs.le l _ _ r⟩
  all_goals exact DR.le l _ _ h
/-- an object's content -/
theorem OR.cr {d : D} {o : HO} {p : Addr} (hp : H p = some o) (h : OR K fa F d o) (hm : d.mutb = true) : CR K fa F H d (.ref p) := by
  cases d <;> simp only [OR, CR] at h ⊢
  · obtain ⟨vs, e, r⟩ := h
    subst e
    exact ⟨p, vs, rfl, hp, r⟩
  · cases hm
  · obtain ⟨vs, e, r⟩ := h
    subst e
    exact ⟨p, vs, rfl, hp, r⟩
theorem OR.dr {d : D} {o : HO} {p : Addr} (hp : F p = some o) (h : OR K fa F d o) : DR K fa F d (.ref p) := by
  cases d <;> simp only [OR, DR] at h ⊢
  · obtain ⟨vs, e, r⟩ := h
    subst e
    exact ⟨p, vs, rfl, hp, r⟩
  · obtain ⟨vs, e, r⟩ := h
    subst e
    exact ⟨p, vs, rfl, SqT.of hp, r⟩
  · obtain ⟨vs, e, r⟩ := h
    subst e
    exact ⟨p, vs, rfl, hp, r⟩
theorem OR.container {d : D} {o : HO} (h : OR K fa F d o) : d.flat = false := by
  cases d <;> simp only [OR] at h <;> rfl
end
/-- what a frame began with: data, heap, the objects that were handed on, where they stand -/
structure Bs where
  F : Hp
  H : Hp
  IO : List Addr
  ios : List (Nat × Addr)
section
variable (K : PySem.W.Frag) (fa : Nat → Addr)
def SlR (F H : Hp) : Sl → Option V → Prop
  | .no, _ => True
  | .sh d, w => ∃ v, w = some v ∧ DR K fa F d v
  | .ow d, w => d.mutb = true ∧ ∃ a o, w = some (.ref a) ∧ H a = some o ∧ OR K fa F d o ∧ F a = none
/-- the state -/
structure SR (B : Bs) (F : Hp) (e : Ev) (σ : St) (H : Hp) : Prop where
  sub : Le F H
  mono : Le B.F F
  fresh : ∀ a o, F a = some o → B.F a = none → B.H a = none ∨ a ∈ B.IO
  keep : ∀ a o, B.H a = some o → a ∉ B.IO → H a = some o
  io : ∀ a, a ∈ B.IO → ∃ o, H a = some o
  ios : ∀ p, p ∈ B.ios → σ[p.1]? = some (some (.ref p.2))
  len : e.length = σ.length
  sl : ∀ (i : Nat) (s : Sl) (w : Option V), e[i]? = some s → σ[i]? = some w → SlR K fa F H s w
  own : ∀ (i : Nat) (d : D) (a : Addr), e[i]? = some (.ow d) → σ[i]? = some (some (.ref a)) → B.H a = none ∨ a ∈ B.IO
  inj : ∀ (i j : Nat) (d d' : D) (a : Addr), e[i]? = some (.ow d) → e[j]? = some (.ow d') → σ[i]? = some (some (.ref a)) → σ[j]? = some (some (.ref a)) → i = j
/-- a value; fr: a new object that nobody else holds -/
def FV (B : Bs) (F : Hp) (e : Ev) (σ : St) (H : Hp) (d : D) (fr : Bool) (v : V) : Prop :=
  if fr = true then ∃ p o, v = .ref p ∧ H p = some o ∧ OR K fa F d o ∧ F p = none ∧ (B.H p = none ∨ p ∈ B.IO) ∧ (∀ (i : Nat) (d' : D), e[i]? = some (.ow d') → σ[i]? ≠ some (some (.ref p))) else DR K fa F d v
end
section
variable {K : PySem.W.Frag} {fa : Nat → Addr} {B : Bs} {F F' H H' : Hp} {e : Ev} {σ : St}
theorem FV.sh {d : D} {v : V} (h : DR K fa F d v) : FV K fa B F e σ H d false v := by
  unfold FV
  rw [if_neg Bool.false_ne_true]
  exact h
theorem FV.dr {d : D} {v : V} (h : FV K fa B F e σ H d false v) : DR K fa F d v := by
  unfold FV at h
  rw [if_neg Bool.false_ne_true] at h
  exact h
theorem FV.mk {d : D} {p : Addr} {o : HO} (h1 : H p = some o) (h2 : OR K fa F d o) (h3 : F p = none) (h4 : B.H p = none ∨ p ∈ B.IO) (h5 : ∀ (i : Nat) (d' : D), e[i]? = some (.ow d') → σ[i]? ≠ some (some (.ref p))) :
    FV K fa B F e σ H d true (.ref p) := by
  unfold FV
  rw [if_pos rfl]
  exact ⟨p, o, rfl, h1, h2, h3, h4, h5⟩
theorem FV.new {d : D} {v : V} (h : FV K fa B F e σ H d true v) : ∃ p o, v = .ref p ∧ H p = some o ∧ OR K fa F d o ∧ F p = none ∧ (B.H p = none ∨ p ∈ B.IO) ∧ (∀ (i : Nat) (d' : D), e[i]? = some (.ow d') → σ[i]? ≠ some (some (.ref p))) := by
  unfold FV at h
  rw [if_pos rfl] at h
  exact h
theorem getD_some {e : Ev} {i : Nat} {s : Sl} (h : e[i]? = some s) : e.getD i .no = s := by
  rw [List.getD_eq_getElem?_getD, h] <;> rfl
theorem getD_ow {e : Ev} {i : Nat} {d : D} (h : e.getD i .no = .ow d) : e[i]? = some (.ow d) := by
  rw [List.getD_eq_getElem?_getD] at h
  cases q : e[i]? with
  | none =>
    rw [q] at h
    cases h
  | some s =>
    rw [q] at h
    exact congrArg some h
theorem getD_sh {e : Ev} {i : Nat} {d : D} (h : e.getD i .no = .sh d) : e[i]? = some (.sh d) := by
  rw [List.getD_eq_getElem?_getD] at h
  cases q : e[i]? with
  | none =>
    rw [q] at h
    cases h
  | some s =>
    rw [q] at h
    exact congrArg some h
theorem SR.at (r : SR K fa B F e σ H) {i : Nat} {s : Sl} (h : e[i]? = some s) : ∃ w, σ[i]? = some w ∧ SlR K fa F H s w := by
  have hi : i < σ.length := by
    rw [← r.len]
    exact (List.getElem?_eq_some_iff.mp h).1
  exact ⟨σ[i], List.getElem?_eq_getElem hi, r.sl i s _ h (List.getElem?_eq_getElem hi)⟩
theorem SR.none_of (r : SR K fa B F e σ H) {p : Addr} (hp : H p = none) : F p = none ∧ B.H p = none ∧ p ∉ B.IO := by
  have h1 : p ∉ B.IO := fun z => by
    obtain ⟨o, q⟩ := r.io p z
    rw [hp] at q
    cases q
  refine ⟨?_, ?_, h1⟩
  · cases q : F p with
    | none => rfl
    | some o =>
      have z := r.sub p o q
      rw [hp] at z
      cases z
  · cases q : B.H p with
    | none => rfl
    | some o =>
      have z := r.keep p o q h1
      rw [hp] at z
      cases z
/-- an own object -/
theorem SR.ow (r : SR K fa B F e σ H) {i : Nat} {d : D} (h : e[i]? = some (.ow d)) : ∃ a o, σ[i]? = some (some (.ref a)) ∧ H a = some o ∧ OR K fa F d o ∧ F a = none ∧ (B.H a = none ∨ a ∈ B.IO) ∧ d.mutb = true := by
  obtain ⟨w, h1, h2⟩ := r.at h
  obtain ⟨hm, a, o, e1, h3, h4, h5⟩ := h2
  subst e1
  exact ⟨a, o, h1, h3, h4, h5, r.own i d a h h1, hm⟩
theorem SlR.le {F F' H H' : Hp} {s : Sl} {w : Option V} (h : SlR K fa F H s w) (l : Le F F') (k : ∀ d a o, s = .ow d → w = some (.ref a) → H a = some o → H' a = some o) (kf : ∀ d a, s = .ow d → w = some (.ref a) → F' a = none) : SlR K fa F' H' s w := by
  cases s with
  | no => exact True.intro
  | sh d =>
    obtain ⟨v, e, q⟩ := h
    exact ⟨v, e, DR.le l d v q⟩
  | ow d =>
    obtain ⟨hm, a, o, e, h1, h2, h3⟩ := h
    exact ⟨hm, a, o, e, k d a o rfl e h1, OR.le l h2, kf d a rfl e⟩
/-- a new object -/
theorem SR.new (r : SR K fa B F e σ H) {p : Addr} {o : HO} (hp : H p = none) : SR K fa B F e σ (upd H p o) := by
  have l : Le H (upd H p o) := Le.upd hp
  obtain ⟨h1, h2, h3⟩ := r.none_of hp
  refine ⟨r.sub.trans l, r.mono, r.fresh, fun a u q z => l _ _ (r.keep a u q z), fun a z => ?_, r.ios, r.len, fun i s w q1 q2 => ?_, r.own, r.inj⟩
  · obtain ⟨u, q⟩ := r.io a z
    exact ⟨u, l _ _ q⟩
  · refine (r.sl i s w q1 q2).le (Le.refl F) (fun d a u _ _ q => l _ _ q) fun d a es ew => ?_
    subst es ew
    obtain ⟨_, a', o', q3, _, _, q4⟩ := r.sl i _ _ q1 q2
    cases q3
    exact q4
theorem SR.newV (r : SR K fa B F e σ H) {p : Addr} {o : HO} {d : D} (hp : H p = none) (ho : OR K fa F d o) : FV K fa B F e σ (upd H p o) d true (.ref p) := by
  obtain ⟨h1, h2, h3⟩ := r.none_of hp
  refine FV.mk upd_same ho h1 (.inl h2) fun i d' q1 q2 => ?_
  obtain ⟨a, u, q3, q4, _⟩ := r.ow q1
  rw [q2] at q3
  cases q3
  rw [hp] at q4
  cases q4
/-- more is data than before: an object that no slot holds -/
theorem SR.more (r : SR K fa B F e σ H) {p : Addr} {o : HO} (hp : H p = some o) (hf : F p = none) (hb : B.H p = none ∨ p ∈ B.IO) (ho : ∀ (i : Nat) (d' : D), e[i]? = some (.ow d') → σ[i]? ≠ some (some (.ref p))) :
    SR K fa B (upd F p o) e σ H := by
  have l : Le F (upd F p o) := Le.upd hf
  refine ⟨fun a u q => ?_, r.mono.trans l, fun a u q z => ?_, r.keep, r.io, r.ios, r.len, fun i s w q1 q2 => ?_, r.own, r.inj⟩
  · by_cases ha : a = p
    · subst ha
      rw [upd_same] at q
      cases q
      exact hp
    · rw [upd_ne ha] at q
      exact r.sub a u q
  · by_cases ha : a = p
    · subst ha
      exact hb
    · rw [upd_ne ha] at q
      exact r.fresh a u q z
  · refine (r.sl i s w q1 q2).le l (fun _ _ _ _ _ q => q) fun d a es ew => ?_
    subst es ew
    obtain ⟨_, a', o', q3, _, _, q4⟩ := r.sl i _ _ q1 q2
    cases q3
    rw [upd_ne]
    · exact q4
    · intro z
      subst z
      exact ho i d q1 q2
/-- a value becomes data -/
theorem SR.freeze (r : SR K fa B F e σ H) {d : D} {fr : Bool} {v : V} (h : FV K fa B F e σ H d fr v) : ∃ F', Le F F' ∧ SR K fa B F' e σ H ∧ DR K fa F' d v := by
  cases fr with
  | false => exact ⟨F, Le.refl F, r, h.dr⟩
  | true =>
    obtain ⟨p, o, e1, h1, h2, h3, h4, h5⟩ := h.new
    subst e1
    exact ⟨upd F p o, Le.upd h3, r.more h1 h3 h4 h5, OR.dr upd_same (h2.le (Le.upd h3))⟩
/-- a slot is emptied -/
theorem SR.drop (r : SR K fa B F e σ H) (i : Nat) : SR K fa B F (e.set i .no) σ H := by
  refine ⟨r.sub, r.mono, r.fresh, r.keep, r.io, r.ios, by rw [List.length_set]; exact r.len, fun j s w q1 q2 => ?_, fun j d a q1 q2 => ?_, fun j k d d' a q1 q2 q3 q4 => ?_⟩
  · by_cases hj : i = j
    · subst hj
      by_cases hl : i < e.length
      · rw [List.getElem?_set_self hl] at q1
        cases q1
        exact True.intro
      · rw [List.getElem?_eq_none (by simpa using hl)] at q1
        cases q1
    · rw [List.getElem?_set_ne hj] at q1
      exact r.sl j s w q1 q2
  all_goals
    have g : ∀ {j : Nat} {d : D}, (e.set i .no)[j]? = some (.ow d) → e[j]? = some (.ow d) := fun {j d} q => by
      by_cases hj : i = j
      · subst hj
        by_cases hl : i < e.length
        · rw [List.getElem?_set_self hl] at q
          cases q
        · rw [List.getElem?_eq_none (by simpa using hl)] at q
          cases q
      · rw [List.getElem?_set_ne hj] at q
        exact q
  · exact r.own j d a (g q1) q2
  · exact r.inj j k d d' a (g q1) (g q2) q3 q4
/-- a slot that is filled with data that it holds -/
theorem SR.put (r : SR K fa B F e σ H) {i : Nat} {d : D} {v : V} (hs : σ[i]? = some (some v)) (h : DR K fa F d v) : SR K fa B F (e.set i (.sh d)) σ H := by
  have hl : i < e.length := by
    rw [r.len]
    exact (List.getElem?_eq_some_iff.mp hs).1
  have g : ∀ {j : Nat} {d' : D}, (e.set i (.sh d))[j]? = some (.ow d') → e[j]? = some (.ow d') := fun {j d'} q => by
    by_cases hj : i = j
    · subst hj
      rw [List.getElem?_set_self hl] at q
      cases q
    · rw [List.getElem?_set_ne hj] at q
      exact q
  refine ⟨r.sub, r.mono, r.fresh, r.keep, r.io, r.ios, by rw [List.length_set]; exact r.len, fun j s w q1 q2 => ?_, fun j d a q1 q2 => r.own j d a (g q1) q2, fun j k d d' a q1 q2 q3 q4 => r.inj j k d d' a (g q1) (g q2) q3 q4⟩
  by_cases hj : i = j
  · subst hj
    rw [List.getElem?_set_self hl] at q1
    cases q1
    rw [hs] at q2
    cases q2
    exact ⟨v, rfl, h⟩
  · rw [List.getElem?_set_ne hj] at q1
    exact r.sl j s w q1 q2
/-- an own object becomes data -/
theorem SR.frzSlot (r : SR K fa B F e σ H) {i : Nat} {d : D} (h : e[i]? = some (.ow d)) : ∃ F' v, Le F F' ∧ SR K fa B F' (e.set i (.sh d)) σ H ∧ σ[i]? = some (some v) ∧ DR K fa F' d v := by
  obtain ⟨a, o, h1, h2, h3, h4, h5, hm⟩ := r.ow h
  have hl : i < e.length := (List.getElem?_eq_some_iff.mp h).1
  have r1 := (r.drop i).more h2 h4 h5 fun j d' q1 q2 => by
    by_cases hj : i = j
    · subst hj
      rw [List.getElem?_set_self hl] at q1
      cases q1
    · rw [List.getElem?_set_ne hj] at q1
      exact hj (r.inj i j d d' a h q1 h1 q2)
  have dr : DR K fa (upd F a o) d (.ref a) := OR.dr upd_same (h3.le (Le.upd h4))
  have r2 := r1.put h1 dr
  rw [List.set_set] at r2
  exact ⟨upd F a o, .ref a, Le.upd h4, r2, h1, dr⟩
/-- a slot as it is, told to be data -/
theorem SR.frz (r : SR K fa B F e σ H) (i : Nat) : ∃ F', Le F F' ∧ SR K fa B F' (e.set i (e.getD i .no).frz) σ H := by
  cases q : e[i]? with
  | none =>
    have z : e.set i (e.getD i .no).frz = e := List.set_eq_of_length_le (List.getElem?_eq_none_iff.mp q)
    rw [z]
    exact ⟨F, Le.refl F, r⟩
  | some s =>
    rw [getD_some q]
    cases s with
    | no => exact ⟨F, Le.refl F, r.drop i⟩
    | sh d =>
      obtain ⟨w, h1, v, h2, h3⟩ := r.at q
      subst h2
      exact ⟨F, Le.refl F, r.put h1 h3⟩
    | ow d =>
      obtain ⟨F', v, l, r', _⟩ := r.frzSlot q
      exact ⟨F', l, r'⟩
/-- an own object changes -/
theorem SR.write (r : SR K fa B F e σ H) {i : Nat} {d d' : D} {a : Addr} {o' : HO} (h : e[i]? = some (.ow d)) (ha : σ[i]? = some (some (.ref a))) (h' : OR K fa F d' o') (hm' : d'.mutb = true) : SR K fa B F (e.set i (.ow d')) σ (upd H a o') := by
  obtain ⟨a', o, h1, h2, h3, h4, h5, hm⟩ := r.ow h
  rw [ha] at h1
  cases h1
  have hl : i < e.length := (List.getElem?_eq_some_iff.mp h).1
  have g : ∀ {j : Nat} {d2 : D}, (e.set i (.ow d'))[j]? = some (.ow d2) → ∃ d3, e[j]? = some (.ow d3) := fun {j d2} q => by
    by_cases hj : i = j
    · subst hj
      exact ⟨d, h⟩
    · rw [List.getElem?_set_ne hj] at q
      exact ⟨d2, q⟩
  refine ⟨fun b u q => ?_, r.mono, r.fresh, fun b u q z => ?_, fun b z => ?_, r.ios, by rw [List.length_set]; exact r.len, fun j s w q1 q2 => ?_, fun j d2 b q1 q2 => ?_, fun j k d2 d3 b q1 q2 q3 q4 => ?_⟩
  · have hb : b ≠ a := fun z => by
      subst z
      rw [h4] at q
      cases q
    rw [upd_ne hb]
    exact r.sub b u q
  · have hb : b ≠ a := fun y => by
      subst y
      rcases h5 with y | y
      · rw [y] at q
        cases q
      · exact z y
    rw [upd_ne hb]
    exact r.keep b u q z
  · by_cases hb : b = a
    · subst hb
      exact ⟨o', upd_same⟩
    · rw [upd_ne hb]
      exact r.io b z
  · by_cases hj : i = j
    · subst hj
      rw [List.getElem?_set_self hl] at q1
      cases q1
      rw [ha] at q2
      cases q2
      exact ⟨hm', a, o', rfl, upd_same, h', h4⟩
    · rw [List.getElem?_set_ne hj] at q1
      refine (r.sl j s w q1 q2).le (Le.refl F) (fun d2 b u es ew q => ?_) fun d2 b es ew => ?_
      · subst es ew
        rw [upd_ne]
        · exact q
        · intro z
          subst z
          exact hj (r.inj i j d d2 _ h q1 ha q2)
      · subst es ew
        obtain ⟨_, a', o', q3, _, _, q4⟩ := r.sl j _ _ q1 q2
        cases q3
        exact q4
  · obtain ⟨d4, q⟩ := g q1
    exact r.own j d4 b q q2
  · obtain ⟨d4, p1⟩ := g q1
    obtain ⟨d5, p2⟩ := g q2
    exact r.inj j k d4 d5 b p1 p2 q3 q4
/-- a slot is filled anew -/
theorem SR.asgG (r : SR K fa B F e σ H) {i : Nat} {s : Sl} {v : V} (hi : ∀ p ∈ B.ios, (σ.set i (some v))[p.1]? = some (some (.ref p.2))) (h : SlR K fa F H s (some v)) (ho : ∀ d, s = .ow d → ∃ a, v = .ref a ∧ (B.H a = none ∨ a ∈ B.IO) ∧ ∀ (j : Nat) (d' : D), e[j]? = some (.ow d') → σ[j]? ≠ some (some (.ref a))) :
    SR K fa B F (e.set i s) (σ.set i (some v)) H := by
  refine ⟨r.sub, r.mono, r.fresh, r.keep, r.io, hi, by rw [List.length_set, List.length_set]; exact r.len, fun j s' w q1 q2 => ?_, fun j d a q1 q2 => ?_, fun j k d d' a q1 q2 q3 q4 => ?_⟩
  · by_cases hj : i = j
    · subst hj
      by_cases hl : i < e.length
      · rw [List.getElem?_set_self hl] at q1
        rw [List.getElem?_set_self (by rw [← r.len]; exact hl)] at q2
        cases q1
        cases q2
        exact h
      · rw [List.getElem?_eq_none (by simpa using hl)] at q1
        cases q1
    · rw [List.getElem?_set_ne hj] at q1 q2
      exact r.sl j s' w q1 q2
  · by_cases hj : i = j
    · subst hj
      by_cases hl : i < e.length
      · rw [List.getElem?_set_self hl] at q1
        rw [List.getElem?_set_self (by rw [← r.len]; exact hl)] at q2
        cases q1
        cases q2
        obtain ⟨a', e1, h1, _⟩ := ho d rfl
        cases e1
        exact h1
      · rw [List.getElem?_eq_none (by simpa using hl)] at q1
        cases q1
    · rw [List.getElem?_set_ne hj] at q1 q2
      exact r.own j d a q1 q2
  · by_cases hj : i = j
    · by_cases hk : i = k
      · exact hj.symm.trans hk
      · subst hj
        rw [List.getElem?_set_ne hk] at q2 q4
        by_cases hl : i < e.length
        · rw [List.getElem?_set_self hl] at q1
          rw [List.getElem?_set_self (by rw [← r.len]; exact hl)] at q3
          cases q1
          cases q3
          obtain ⟨a', e1, _, h2⟩ := ho d rfl
          cases e1
          exact absurd q4 (h2 k d' q2)
        · rw [List.getElem?_eq_none (by simpa using hl)] at q1
          cases q1
    · rw [List.getElem?_set_ne hj] at q1 q3
      by_cases hk : i = k
      · subst hk
        by_cases hl : i < e.length
        · rw [List.getElem?_set_self hl] at q2
          rw [List.getElem?_set_self (by rw [← r.len]; exact hl)] at q4
          cases q2
          cases q4
          obtain ⟨a', e1, _, h2⟩ := ho d' rfl
          cases e1
          exact absurd q3 (h2 j d q1)
        · rw [List.getElem?_eq_none (by simpa using hl)] at q2
          cases q2
      · rw [List.getElem?_set_ne hk] at q2 q4
        exact r.inj j k d d' a q1 q2 q3 q4
/-- a name is stored -/
theorem SR.asg (r : SR K fa B F e σ H) {i : Nat} {s : Sl} {v : V} (hi : ∀ p ∈ B.ios, p.1 ≠ i) (h : SlR K fa F H s (some v)) (ho : ∀ d, s = .ow d → ∃ a, v = .ref a ∧ (B.H a = none ∨ a ∈ B.IO) ∧ ∀ (j : Nat) (d' : D), e[j]? = some (.ow d') → σ[j]? ≠ some (some (.ref a))) :
    SR K fa B F (e.set i s) (σ.set i (some v)) H :=
  r.asgG (fun p hp => by rw [List.getElem?_set_ne (Ne.symm (hi p hp))]; exact r.ios p hp) h ho
theorem SR.asgSh (r : SR K fa B F e σ H) {i : Nat} {d : D} {v : V} (hi : ∀ p ∈ B.ios, p.1 ≠ i) (h : DR K fa F d v) : SR K fa B F (e.set i (.sh d)) (σ.set i (some v)) H :=
  r.asg hi ⟨v, rfl, h⟩ fun _ q => nomatch q
/-- x = value -/
theorem SR.asgF (r : SR K fa B F e σ H) {i : Nat} {d : D} {fr : Bool} {v : V} (hi : ∀ p ∈ B.ios, p.1 ≠ i) (h : FV K fa B F e σ H d fr v) : ∃ F', Le F F' ∧ SR K fa B F' (e.set i (mkSl d fr)) (σ.set i (some v)) H := by
  unfold mkSl
  by_cases c : (fr && d.mutb) = true
  · rw [if_pos c]
    obtain ⟨c1, c2⟩ := Bool.and_eq_true_iff.mp c
    subst c1
    obtain ⟨p, o, e1, h1, h2, h3, h4, h5⟩ := h.new
    subst e1
    exact ⟨F, Le.refl F, r.asg hi ⟨c2, p, o, rfl, h1, h2, h3⟩ fun d' q => ⟨p, rfl, h4, h5⟩⟩
  · rw [if_neg c]
    obtain ⟨F', l, r', q⟩ := r.freeze h
    exact ⟨F', l, r'.asgSh hi q⟩
/-- the addresses that the slots hold alone -/
def owns (e : Ev) (σ : St) : List Addr := (List.range e.length).filterMap fun (i : Nat) => match e[i]?, σ[i]? with
  | some (Sl.ow _), some (some (V.ref a)) => some a
  | _, _ => none
theorem mem_owns {a : Addr} : a ∈ owns e σ ↔ ∃ (i : Nat) (d : D), e[i]? = some (.ow d) ∧ σ[i]? = some (some (.ref a)) := by
  unfold owns
  rw [List.mem_filterMap]
  constructor
  · rintro ⟨i, _, h⟩
    split at h
    · rename_i d a' q1 q2
      cases h
      exact ⟨i, d, q1, q2⟩
    · cases h
  · rintro ⟨i, d, q1, q2⟩
    refine ⟨i, List.mem_range.mpr (List.getElem?_eq_some_iff.mp q1).1, ?_⟩
    rw [q1, q2]
/-- a new beginning, here -/
def here (F H : Hp) (e : Ev) (σ : St) : Bs := ⟨F, H, owns e σ, []⟩
theorem SR.rebase (r : SR K fa B F e σ H) : SR K fa (here F H e σ) F e σ H := by
  refine ⟨r.sub, Le.refl F, fun a o q1 q2 => ?_, fun _ _ q _ => q, fun a h => ?_, fun _ h => (nomatch h), r.len, r.sl, fun i d a q1 q2 => .inr (mem_owns.mpr ⟨i, d, q1, q2⟩), r.inj⟩
  · have q2' : F a = none := q2
    rw [q2'] at q1
    cases q1
  · obtain ⟨i, d, q1, q2⟩ := mem_owns.mp h
    obtain ⟨a', o, h1, h2, _⟩ := r.ow q1
    rw [q2] at h1
    cases h1
    exact ⟨o, h2⟩
/-- and back -/
theorem SR.back (r : SR K fa B F e σ H) {e' : Ev} {σ' : St} (r' : SR K fa (here F H e σ) F' e' σ' H') (hs : ∀ p ∈ B.ios, σ'[p.1]? = some (some (.ref p.2))) : SR K fa B F' e' σ' H' := by
  have up : ∀ a, (here F H e σ).H a = none ∨ a ∈ (here F H e σ).IO → B.H a = none ∨ a ∈ B.IO := fun a z => by
    rcases z with z | z
    · exact .inl (r.none_of z).2.1
    · obtain ⟨i, d, q1, q2⟩ := mem_owns.mp z
      exact r.own i d a q1 q2
  have kp : ∀ a o, B.H a = some o → a ∉ B.IO → H a = some o ∧ a ∉ (here F H e σ).IO := fun a o q z => ⟨r.keep a o q z, fun y => by
    rcases up a (.inr y) with y | y
    · rw [y] at q
      cases q
    · exact z y⟩
  refine ⟨r'.sub, r.mono.trans r'.mono, fun a o q1 q2 => ?_, fun a o q z => ?_, fun a z => ?_, hs, r'.len, r'.sl, fun i d a q1 q2 => up a (r'.own i d a q1 q2), r'.inj⟩
  · cases q : F a with
    | none => exact up a (r'.fresh a o q1 q)
    | some o' => exact r.fresh a o' q q2
  · obtain ⟨h1, h2⟩ := kp a o q z
    exact r'.keep a o h1 h2
  · obtain ⟨o, q⟩ := r.io a z
    by_cases hm : a ∈ (here F H e σ).IO
    · exact r'.io a hm
    · exact ⟨o, r'.keep a o q hm⟩
theorem FV.back {e' : Ev} {σ' : St} {d : D} {fr : Bool} {v : V} (r : SR K fa B F e σ H) (h : FV K fa (here F H e σ) F' e' σ' H' d fr v) : FV K fa B F' e' σ' H' d fr v := by
  cases fr with
  | false => exact FV.sh h.dr
  | true =>
    obtain ⟨p, o, e1, h1, h2, h3, h4, h5⟩ := h.new
    subst e1
    refine FV.mk h1 h2 h3 ?_ h5
    rcases h4 with z | z
    · exact .inl (r.none_of z).2.1
    · obtain ⟨i, d, q1, q2⟩ := mem_owns.mp z
      exact r.own i d p q1 q2
end
end EV
/-! Operations on data keep what the model does. -/
namespace EV
open PySem L2
section
variable {K : PySem.W.Frag} {fa : Nat → Addr} {B : Bs} {F F' H H' : Hp} {e : Ev} {σ : L2.St}
/-- what follows a value -/
def Fin (K : PySem.W.Frag) (fa : Nat → Addr) (B : Bs) (F : Hp) (e : Ev) (σ : L2.St) (d : D) (fr : Bool) (Q : VK) : Prop :=
  ∀ F' H' v, Le F F' → SR K fa B F' e σ H' → FV K fa B F' e σ H' d fr v → Q v H'
theorem Fin.flat {d : D} {v : V} {Q : VK} (r : SR K fa B F e σ H) (h : Fin K fa B F e σ d false Q) (hv : DR K fa F d v) : Q v H := h F H v (Le.refl F) r (FV.sh hv)
theorem Fin.new {d : D} {Q : VK} (r : SR K fa B F e σ H) (h : Fin K fa B F e σ d true Q) {p : Addr} {o : HO} (hp : H p = none) (ho : OR K fa F d o) : Q (.ref p) (upd H p o) :=
  h F _ _ (Le.refl F) (r.new hp) (r.newV hp ho)
theorem Fin.newT {d : D} {Q : VK} (r : SR K fa B F e σ H) (h : Fin K fa B F e σ d false Q) {p : Addr} {o : HO} (hp : H p = none) (ho : OR K fa F d o) : Q (.ref p) (upd H p o) := by
  obtain ⟨F', l, r', q⟩ := (r.new (o := o) hp).freeze (r.newV hp ho)
  exact h F' _ _ l r' (FV.sh q)
end
/-! ### == -/
section
variable {K : PySem.W.Frag} {fa : Nat → Addr} {F H : Hp}
mutual
theorem DR.dp (l : Le F H) : ∀ (d : D) (p : PyData) (v : V), d.py = some p → DR K fa F d v → Dp K H v p
  | .non, p, v, h, q => by
    simp only [D.py, Option.some.injEq] at h
    simp only [DR] at q
    subst h q
    exact .non
  | .bl b, p, v, h, q => by
    simp only [D.py, Option.some.injEq] at h
    simp only [DR] at q
    subst h q
    exact .bl b
  | .int b, p, v, h, q => by
    simp only [D.py, Option.some.injEq] at h
    simp only [DR] at q
    subst h q
    exact .int b
  | .str b, p, v, h, q => by
    simp only [D.py, Option.some.injEq] at h
    simp only [DR] at q
    subst h q
    exact .str _
  | .fn _, p, v, h, q => by simp [D.py] at h
  | .scr _, p, v, h, q => by simp [D.py] at h
  | .dct _ _, p, v, h, q => by simp [D.py] at h
  | .lst ds, p, v, h, q => by
    simp only [D.py] at h
    simp only [DR] at q
    obtain ⟨a, vs, e1, h1, h2⟩ := q
    cases z : D.pys ds with
    | none =>
      rw [z] at h
      cases h
    | some ps =>
      rw [z] at h
      cases h
      subst e1
      exact .lst (SqL.of (l _ _ h1)) (DRs.dp l ds ps vs z h2)
  | .tup ds, p, v, h, q => by
    simp only [D.py] at h
    simp only [DR] at q
    obtain ⟨a, vs, e1, h1, h2⟩ := q
    cases z : D.pys ds with
    | none =>
      rw [z] at h
      cases h
    | some ps =>
      rw [z] at h
      cases h
      subst e1
      exact .tup (SqT.le l h1) (DRs.dp l ds ps vs z h2)
theorem DRs.dp (l : Le F H) : ∀ (ds : List D) (ps : List PyData) (vs : List V), D.pys ds = some ps → DRs K fa F ds vs → DpAll K H vs ps
  | [], ps, vs, h, q => by
    simp only [D.pys, Option.some.injEq] at h
    simp only [DRs] at q
    subst h q
    exact .nil
  | d :: ds, ps, vs, h, q => by
    simp only [DRs] at q
    obtain ⟨v, r, e1, h1, h2⟩ := q
    subst e1
    simp only [D.pys] at h
    cases z1 : D.py d with
    | none =>
      rw [z1] at h
      cases h
    | some p =>
      cases z2 : D.pys ds with
      | none =>
        rw [z1, z2] at h
        cases h
      | some ps' =>
        rw [z1, z2] at h
        cases h
        exact .cons (DR.dp l d p v z1 h1) (DRs.dp l ds ps' r z2 h2)
end
theorem CR.dp (l : Le F H) {d : D} {p : PyData} {v : V} (h : d.py = some p) (q : CR K fa F H d v) : Dp K H v p := by
  cases d <;> simp only [CR] at q
  case lst ds =>
    simp only [D.py] at h
    obtain ⟨a, vs, e1, h1, h2⟩ := q
    cases z : D.pys ds with
    | none =>
      rw [z] at h
      cases h
    | some ps =>
      rw [z] at h
      cases h
      subst e1
      exact .lst (SqL.of h1) (DRs.dp l ds ps vs z h2)
  case dct => simp [D.py] at h
  all_goals exact DR.dp l _ _ _ h q
/-- a list that is told as ints, as texts -/
theorem DRs.ints : ∀ {ds : List D} {vs : List V} {ns : List Int}, ints? ds = some ns → DRs K fa F ds vs → vs = ns.map V.int ∧ ds = ns.map D.int
  | [], vs, ns, h, q => by
    simp only [ints?, Option.some.injEq] at h
    simp only [DRs] at q
    subst h q
    exact ⟨rfl, rfl⟩
  | d :: ds, vs, ns, h, q => by
    simp only [DRs] at q
    obtain ⟨v, r, e1, h1, h2⟩ := q
    subst e1
    cases d <;> simp only [ints?] at h <;> try (cases h)
    rename_i i
    cases z : ints? ds with
    | none =>
      rw [z] at h
      cases h
    | some ms =>
      rw [z] at h
      cases h
      obtain ⟨k1, k2⟩ := DRs.ints z h2
      simp only [DR] at h1
      rw [h1, k1, k2]
      exact ⟨rfl, rfl⟩
theorem DRs.ofInts : ∀ ns : List Int, DRs K fa F (ns.map D.int) (ns.map V.int)
  | [] => DRs.nil
  | n :: ns => DRs.cons (by simp only [DR]) (DRs.ofInts ns)
theorem DRs.strs : ∀ {ds : List D} {vs : List V} {zs : List (List Nat)}, strs? ds = some zs → DRs K fa F ds vs → vs = (zs.map fun z => (⟨z.toArray⟩ : Str)).map V.str
  | [], vs, ns, h, q => by
    simp only [strs?, Option.some.injEq] at h
    simp only [DRs] at q
    subst h q
    rfl
  | d :: ds, vs, ns, h, q => by
    simp only [DRs] at q
    obtain ⟨v, r, e1, h1, h2⟩ := q
    subst e1
    cases d <;> simp only [strs?] at h <;> try (cases h)
    rename_i i
    cases z : strs? ds with
    | none =>
      rw [z] at h
      cases h
    | some ms =>
      rw [z] at h
      cases h
      have k1 := DRs.strs z h2
      simp only [DR] at h1
      rw [h1, k1]
      rfl
end
theorem str_eq {a b : List Nat} : decide ((⟨a.toArray⟩ : Str) = ⟨b.toArray⟩) = decide (a = b) := by
  rw [Bool.eq_iff_iff]
  simp
/-! ### the operators -/
section
variable {X : Cx} {fa : Nat → Addr} {K0 : PySem.W.Frag}
/-- a two-place operation told of data -/
def rTwo (K : PySem.W.Frag) (fa : Nat → Addr) (g : D → D → Option (D × Bool)) : R2 := fun x y H Q => ∃ (B : Bs) (F : Hp) (e : Ev) (σ : L2.St) (d d' r : D) (fr : Bool),
  SR K fa B F e σ H ∧ CR K fa F H d x ∧ CR K fa F H d' y ∧ g d d' = some (r, fr) ∧ Fin K fa B F e σ r fr Q
theorem some_pair {a b : D} {f g : Bool} (h : some (a, f) = some (b, g)) : a = b ∧ f = g := by
  cases h
  exact ⟨rfl, rfl⟩
theorem op_rep_str (x : Str) (k : Int) {pins : List (Addr × Obj)} {s : Shared} {σ : L2.St} {H : Hp} {t u : Tok} {Q : VK} (I : Inv X pins σ H s) (h1 : -(2 ^ 63) ≤ k) (h2 : k < 2 ^ 63) (hz : x.length * k.toNat ≤ sizeLine)
    (q : Q (.str ⟨(List.replicate k.toNat x.cps.toList).flatten.toArray⟩) H) : wpAny (model X.prog X.w) X.A (binaryOp .Mult (.str x t) (.int k u)) (EP X pins σ Q) X.xe s := by
  refine PySem.P.mul_str ?_ (fun a b => ?_) (fun a b => ?_) ?_
  · rw [decide_eq_false (by omega), decide_eq_false (by omega)] <;> rfl
  · have hk : 0 < k := by omega
    have hx : 0 < x.length := by
      cases q2 : x.length with
      | zero =>
        rw [q2] at b
        simp at b
      | succ n => exact Nat.succ_pos n
    have hz' : (x.length : Int) * k ≤ 16777216 := by
      have z1 : ((x.length * k.toNat : Nat) : Int) ≤ 16777216 := by
        rw [sizeLine_eq] at hz
        exact Int.ofNat_le.mpr hz
      rw [Int.natCast_mul, Int.toNat_of_nonneg (by omega)] at z1
      exact z1
    have h3 : (x.length : Int) ≤ (2 ^ 63 - 1) / k := by
      rw [Int.le_ediv_iff_mul_le hk]
      omega
    omega
  · show decide (x.length * k.toNat > sizeLine) = false
    exact decide_eq_false (by omega)
  · by_cases c1 : k < 1
    · rw [if_pos c1]
      have e0 : k.toNat = 0 := by omega
      rw [e0] at q
      exact ⟨by decide, .str _, H, I.tok _, ⟨_, rfl⟩, q⟩
    · rw [if_neg c1]
      by_cases c2 : (k == 1 || x.length == 0) = true
      · rw [if_pos c2]
        refine ⟨.str x, H, I, ⟨t, rfl⟩, ?_⟩
        have e1 : (⟨(List.replicate k.toNat x.cps.toList).flatten.toArray⟩ : Str) = x := by
          apply Str.ext'
          rcases Bool.or_eq_true_iff.mp c2 with c | c
          · have : k = 1 := by simpa using c
            subst this
            simp
          · have z : x.cps.size = 0 := by simpa [Str.length] using c
            have z2 : x.cps = #[] := Array.eq_empty_of_size_eq_zero z
            rw [z2]
            simp
        rw [e1] at q
        exact q
      · rw [if_neg c2]
        have ef : ∀ (n : Nat) (acc : List Nat), (List.replicate n x.cps).foldl (· ++ ·) acc.toArray = (acc ++ (List.replicate n x.cps.toList).flatten).toArray := by
          intro n
          induction n with
          | zero => intro acc; simp
          | succ n ih =>
            intro acc
            rw [List.replicate_succ, List.foldl_cons, List.replicate_succ, List.flatten_cons]
            have e3 : acc.toArray ++ x.cps = (acc ++ x.cps.toList).toArray := by simp
            rw [e3, ih, List.append_assoc]
        have e4 := ef k.toNat []
        rw [List.nil_append] at e4
        have e5 : (List.replicate k.toNat x.cps).foldl (· ++ ·) #[] = (List.replicate k.toNat x.cps.toList).flatten.toArray := e4
        rw [e5]
        refine ⟨?_, .str _, H, I.tok _, ⟨_, rfl⟩, q⟩
        show (List.replicate k.toNat x.cps.toList).flatten.toArray.size ≤ sizeLine
        rw [List.size_toArray, PyProof.Rows.lm_len_rep_flat, Array.length_toList, Nat.mul_comm]
        exact hz
theorem cMul_ok {i j : Int} (h : cMul i j = true) : CMul i j := by
  rcases Bool.or_eq_true_iff.mp h with h | h
  · have h := Nat.le_of_ble_eq_true h
    exact .inl ⟨by omega, by omega⟩
  · have h := Nat.le_of_ble_eq_true h
    exact .inr ⟨by omega, by omega⟩
theorem cPow_ok {i j : Int} (h : cPow i j = true) : CPow i j := by
  obtain ⟨h, h3⟩ := Bool.and_eq_true_iff.mp h
  obtain ⟨h1, h2⟩ := Bool.and_eq_true_iff.mp h
  have h1 := of_decide_eq_true h1
  have h2 := Nat.le_of_ble_eq_true h2
  have h3 := Nat.le_of_ble_eq_true h3
  exact ⟨h1, by omega, by omega⟩
theorem op_bin (op : Operator) : OpR X (binaryOp op) (rTwo X.K fa (binD op)) := by
  intro pins s σ H x y v u Q I rx ry h
  obtain ⟨B, F, e, τ, d, d', r, fr, hr, cx, cy, hg, q⟩ := h
  unfold binD at hg
  split at hg
  -- ints
  · obtain ⟨e1, e2⟩ := some_pair hg
    simp only [CR, DR] at cx cy
    subst e1 e2
    exact op_add pins s σ H x y v u Q I rx ry ⟨_, _, cx, cy, q.flat hr (by simp only [DR])⟩
  · obtain ⟨e1, e2⟩ := some_pair hg
    simp only [CR, DR] at cx cy
    subst e1 e2
    exact op_sub pins s σ H x y v u Q I rx ry ⟨_, _, cx, cy, q.flat hr (by simp only [DR])⟩
  · split at hg
    · rename_i hc
      obtain ⟨e1, e2⟩ := some_pair hg
      simp only [CR, DR] at cx cy
      subst e1 e2
      refine op_mul pins s σ H x y v u Q I rx ry ⟨_, _, cx, cy, ?_, q.flat hr (by simp only [DR])⟩
      exact cMul_ok hc
    · cases hg
  · split at hg
    · rename_i hc
      obtain ⟨e1, e2⟩ := some_pair hg
      simp only [CR, DR] at cx cy
      subst e1 e2
      refine op_fdiv pins s σ H x y v u Q I rx ry ⟨_, _, cx, cy, ?_, q.flat hr (by simp only [DR])⟩
      obtain ⟨c1, c2⟩ := Bool.and_eq_true_iff.mp hc
      have c1 := of_decide_eq_true c1
      have c2 := Nat.le_of_ble_eq_true c2
      exact ⟨c1, by omega⟩
    · cases hg
  · split at hg
    · rename_i hc
      obtain ⟨e1, e2⟩ := some_pair hg
      simp only [CR, DR] at cx cy
      subst e1 e2
      exact op_mod pins s σ H x y v u Q I rx ry ⟨_, _, cx, cy, of_decide_eq_true hc, q.flat hr (by simp only [DR])⟩
    · cases hg
  · split at hg
    · rename_i hc
      obtain ⟨e1, e2⟩ := some_pair hg
      simp only [CR, DR] at cx cy
      subst e1 e2
      refine op_pow pins s σ H x y v u Q I rx ry ⟨_, _, cx, cy, ?_, q.flat hr (by simp only [DR])⟩
      exact cPow_ok hc
    · cases hg
  · split at hg
    · rename_i hc
      obtain ⟨e1, e2⟩ := some_pair hg
      simp only [CR, DR] at cx cy
      subst e1 e2
      refine op_shl pins s σ H x y v u Q I rx ry ⟨_, _, cx, cy, ?_, q.flat hr (by simp only [DR])⟩
      exact cPow_ok hc
    · cases hg
  · split at hg
    · rename_i hc
      obtain ⟨e1, e2⟩ := some_pair hg
      simp only [CR, DR] at cx cy
      subst e1 e2
      exact op_shr pins s σ H x y v u Q I rx ry ⟨_, _, cx, cy, of_decide_eq_true hc, q.flat hr (by simp only [DR])⟩
    · cases hg
  · obtain ⟨e1, e2⟩ := some_pair hg
    simp only [CR, DR] at cx cy
    subst e1 e2
    exact op_and pins s σ H x y v u Q I rx ry ⟨_, _, cx, cy, q.flat hr (by simp only [DR])⟩
  · obtain ⟨e1, e2⟩ := some_pair hg
    simp only [CR, DR] at cx cy
    subst e1 e2
    exact op_or pins s σ H x y v u Q I rx ry ⟨_, _, cx, cy, q.flat hr (by simp only [DR])⟩
  · obtain ⟨e1, e2⟩ := some_pair hg
    simp only [CR, DR] at cx cy
    subst e1 e2
    exact op_xor pins s σ H x y v u Q I rx ry ⟨_, _, cx, cy, q.flat hr (by simp only [DR])⟩
  -- texts
  · rename_i a b
    split at hg
    · rename_i hc
      obtain ⟨e1, e2⟩ := some_pair hg
      simp only [CR, DR] at cx cy
      subst e1 e2
      refine op_add_str pins s σ H x y v u Q I rx ry ⟨_, _, cx, cy, ?_, q.flat hr ?_⟩
      · have z : a.length + b.length ≤ sizeLine := of_decide_eq_true hc
        simpa [Str.length] using z
      · simp only [DR]
        have z : (⟨a.toArray⟩ : Str) ++ (⟨b.toArray⟩ : Str) = ⟨(a ++ b).toArray⟩ := by
          show (⟨a.toArray ++ b.toArray⟩ : Str) = _
          simp
        rw [z]
    · cases hg
  -- lists
  · rename_i a b
    split at hg
    · rename_i hc
      obtain ⟨e1, e2⟩ := some_pair hg
      simp only [CR] at cx cy
      subst e1 e2
      obtain ⟨p, vs, ex, hp, rx'⟩ := cx
      obtain ⟨p', vs', ey, hp', ry'⟩ := cy
      refine op_cat pins s σ H x y v u Q I rx ry ⟨p, p', vs, vs', ex, ey, hp, hp', ?_, fun b hb => q.new hr hb ?_⟩
      · have z : a.length + b.length ≤ sizeLine := of_decide_eq_true hc
        rw [DRs.length rx', DRs.length ry'] at z
        exact z
      · simp only [OR]
        exact ⟨_, rfl, DRs.append rx' ry'⟩
    · cases hg
  -- tuples
  · rename_i a b
    split at hg
    · rename_i hc
      obtain ⟨e1, e2⟩ := some_pair hg
      have cx0 : DR X.K fa F (.tup a) x := by simpa only [CR] using cx
      have cy0 : DR X.K fa F (.tup b) y := by simpa only [CR] using cy
      subst e1 e2
      have cx1 := cx0
      have cy1 := cy0
      simp only [DR] at cx1 cy1
      obtain ⟨p, vs, ex, hp, rx'⟩ := cx1
      obtain ⟨p', vs', ey, hp', ry'⟩ := cy1
      have z : a.length + b.length ≤ sizeLine := of_decide_eq_true hc
      rw [DRs.length rx', DRs.length ry'] at z
      refine op_catA pins s σ H x y v u Q I rx ry ⟨p, p', vs, vs', ex, ey, SqT.le hr.sub hp, SqT.le hr.sub hp', z, fun h0 => ?_, fun _ h0 => ?_, fun _ _ b hb => q.newT hr hb ?_⟩
      · have ea : a = [] := List.eq_nil_of_length_eq_zero (by rw [DRs.length rx', h0]; rfl)
        subst ea
        rw [← ey]
        exact q.flat hr (by simpa using cy0)
      · have eb : b = [] := List.eq_nil_of_length_eq_zero (by rw [DRs.length ry', h0]; rfl)
        subst eb
        rw [← ex]
        exact q.flat hr (by simpa using cx0)
      · simp only [OR]
        exact ⟨_, rfl, DRs.append rx' ry'⟩
    · cases hg
  -- a list, a text so many times
  · rename_i a k
    split at hg
    · rename_i hc
      obtain ⟨e1, e2⟩ := some_pair hg
      simp only [CR, DR] at cx cy
      subst e1 e2
      simp only [Bool.and_eq_true] at hc
      obtain ⟨h0, h3⟩ := hc
      have h0 := Nat.le_of_ble_eq_true h0
      have h1 : -(2 ^ 63) ≤ k := by omega
      have h2 : k < 2 ^ 63 := by omega
      have z : a.length * k.toNat ≤ sizeLine := of_decide_eq_true h3
      obtain ⟨p, vs, ex, hp, rx'⟩ := cx
      rw [DRs.length rx'] at z
      refine op_rep pins s σ H x y v u Q I rx ry ⟨p, k, vs, ex, cy, hp, h1, h2, z, fun b hb => q.new hr hb ?_⟩
      simp only [OR]
      exact ⟨_, rfl, DRs.rep rx' k.toNat⟩
    · cases hg
  · rename_i a k
    split at hg
    · rename_i hc
      obtain ⟨e1, e2⟩ := some_pair hg
      simp only [CR, DR] at cx cy
      subst e1 e2 cx cy
      simp only [Bool.and_eq_true] at hc
      obtain ⟨h0, h3⟩ := hc
      have h0 := Nat.le_of_ble_eq_true h0
      have h1 : -(2 ^ 63) ≤ k := by omega
      have h2 : k < 2 ^ 63 := by omega
      have z : a.length * k.toNat ≤ sizeLine := of_decide_eq_true h3
      obtain ⟨t, rfl⟩ := rx
      obtain ⟨t', rfl⟩ := ry
      refine op_rep_str ⟨a.toArray⟩ k I h1 h2 ?_ (q.flat hr (by simp only [DR]))
      simpa [Str.length] using z
    · cases hg
  · cases hg
/-- a comparison -/
def rCmpD (K : PySem.W.Frag) (fa : Nat → Addr) (op : CmpOp) : R2 := rTwo K fa fun d d' => (cmpD op d d').map fun k => (.bl k, false)
theorem map_bl {o : Option Bool} {r : D} {fr : Bool} (h : (o.map fun k => ((.bl k, false) : D × Bool)) = some (r, fr)) : ∃ k, o = some k ∧ r = .bl k ∧ fr = false := by
  cases o with
  | none => cases h
  | some k =>
    cases h
    exact ⟨k, rfl, rfl, rfl⟩
theorem scal_ok {F H : Hp} {d d' : D} {x y : V} {k : Bool} (h : scalD d d' = some k) (cx : CR K0 fa F H d x) (cy : CR K0 fa F H d' y) : scal x y = true ∧ decide (x = y) = k := by
  unfold scalD at h
  split at h <;> first
    | (simp only [CR, DR] at cx cy
       subst cx cy
       cases h
       first
         | exact ⟨rfl, rfl⟩
         | exact ⟨rfl, by simp⟩
         | exact ⟨rfl, by rw [← str_eq]; simp⟩)
    | cases h
theorem op_eqX (hu : X.A.units + 65 < cLine) : OpR X (compareOp .Eq) (rCmpD X.K fa .Eq) := by
  intro pins s σ H x y v u Q I rx ry h
  obtain ⟨B, F, e, τ, d, d', r, fr, hr, cx, cy, hg, q⟩ := h
  obtain ⟨k, hk, e1, e2⟩ := map_bl hg
  subst e1 e2
  have fin : Q (.bl k) H := q.flat hr (by simp only [DR])
  have hk' : eqD d d' = some k := hk
  unfold eqD at hk'
  split at hk'
  · rename_i b hb
    cases hk'
    obtain ⟨h1, h2⟩ := scal_ok hb cx cy
    refine op_eq pins s σ H x y v u Q I rx ry ⟨h1, ?_⟩
    rw [h2]
    exact fin
  · split at hk'
    · rename_i p q' hp hq
      split at hk'
      · rename_i hc
        obtain ⟨c1, c2⟩ := Bool.and_eq_true_iff.mp hc
        cases hk'
        exact op_eqD (by omega) pins s σ H x y v u Q I rx ry ⟨p, q', CR.dp hr.sub hp cx, CR.dp hr.sub hq cy, c1, c2, fin⟩
      · cases hk'
    · cases hk'
theorem op_neX (hu : X.A.units + 65 < cLine) : OpR X (compareOp .NotEq) (rCmpD X.K fa .NotEq) := by
  intro pins s σ H x y v u Q I rx ry h
  obtain ⟨B, F, e, τ, d, d', r, fr, hr, cx, cy, hg, q⟩ := h
  obtain ⟨k, hk, e1, e2⟩ := map_bl hg
  subst e1 e2
  have fin : Q (.bl k) H := q.flat hr (by simp only [DR])
  have hk' : (eqD d d').map (!·) = some k := hk
  cases hz : eqD d d' with
  | none =>
    rw [hz] at hk'
    cases hk'
  | some k0 =>
    rw [hz] at hk'
    cases hk'
    unfold eqD at hz
    split at hz
    · rename_i b hb
      cases hz
      obtain ⟨h1, h2⟩ := scal_ok hb cx cy
      refine op_ne pins s σ H x y v u Q I rx ry ⟨h1, ?_⟩
      rw [h2]
      exact fin
    · split at hz
      · rename_i p q' hp hq
        split at hz
        · rename_i hc
          obtain ⟨c1, c2⟩ := Bool.and_eq_true_iff.mp hc
          cases hz
          exact op_neD (by omega) pins s σ H x y v u Q I rx ry ⟨p, q', CR.dp hr.sub hp cx, CR.dp hr.sub hq cy, c1, c2, fin⟩
        · cases hz
      · cases hz
theorem inList_ok {F H : Hp} {d : D} {ys : List D} {x y : V} {k : Bool} (l : Le F H) (h : inList d ys = some k) (cx : CR K0 fa F H d x) (cy : CR K0 fa F H (.lst ys) y) :
    ∃ p ps, Dp K0 H x p ∧ Dp K0 H y (.list ps) ∧ SeqAt.shaped p = true ∧ SeqAt.shaped (.list ps) = true ∧ (ps.any fun z => PyData.eqv z p) = k := by
  unfold inList at h
  split at h
  · rename_i p qs hp hq
    split at h
    · rename_i hc
      obtain ⟨c1, c2⟩ := Bool.and_eq_true_iff.mp hc
      cases h
      refine ⟨p, qs, CR.dp l hp cx, CR.dp l (d := .lst ys) ?_ cy, c1, c2, rfl⟩
      simp only [D.py, hq]
      rfl
    · cases h
  · cases h
theorem op_inX (hu : X.A.units + 65 < cLine) : OpR X (compareOp .In) (rCmpD X.K fa .In) := by
  intro pins s σ H x y v u Q I rx ry h
  obtain ⟨B, F, e, τ, d, d', r, fr, hr, cx, cy, hg, q⟩ := h
  obtain ⟨k, hk, e1, e2⟩ := map_bl hg
  subst e1 e2
  have fin : Q (.bl k) H := q.flat hr (by simp only [DR])
  have hk' : inD d d' = some k := hk
  unfold inD at hk'
  split at hk'
  · simp only [CR, DR] at cx cy
    cases hk'
    exact op_in_sign pins s σ H x y v u Q I rx ry ⟨_, _, cx, cy, fin⟩
  · obtain ⟨p, ps, h1, h2, h3, h4, h5⟩ := inList_ok hr.sub hk' cx cy
    refine op_inD hu pins s σ H x y v u Q I rx ry ⟨p, ps, h1, h2, h3, h4, ?_⟩
    rw [h5]
    exact fin
  · cases hk'
theorem op_notInX (hu : X.A.units + 65 < cLine) : OpR X (compareOp .NotIn) (rCmpD X.K fa .NotIn) := by
  intro pins s σ H x y v u Q I rx ry h
  obtain ⟨B, F, e, τ, d, d', r, fr, hr, cx, cy, hg, q⟩ := h
  obtain ⟨k, hk, e1, e2⟩ := map_bl hg
  subst e1 e2
  have fin : Q (.bl k) H := q.flat hr (by simp only [DR])
  have hk' : (inD d d').map (!·) = some k := hk
  cases hz : inD d d' with
  | none =>
    rw [hz] at hk'
    cases hk'
  | some k0 =>
    rw [hz] at hk'
    cases hk'
    unfold inD at hz
    split at hz
    · simp only [CR, DR] at cx cy
      cases hz
      exact op_notIn_sign pins s σ H x y v u Q I rx ry ⟨_, _, cx, cy, fin⟩
    · obtain ⟨p, ps, h1, h2, h3, h4, h5⟩ := inList_ok hr.sub hz cx cy
      refine op_notInD hu pins s σ H x y v u Q I rx ry ⟨p, ps, h1, h2, h3, h4, ?_⟩
      rw [h5]
      exact fin
    · cases hz
theorem is_ok {F H : Hp} {d : D} {x : V} (cx : CR K0 fa F H d x) : decide (x = .non) = d.isNon := by
  cases d <;> simp only [CR, DR] at cx <;> first
    | (subst cx; rfl)
    | (obtain ⟨a, vs, e, _⟩ := cx; subst e; rfl)
    | (obtain ⟨a, e, _⟩ := cx; subst e; rfl)
theorem op_cmp (hu : X.A.units + 65 < cLine) (op : CmpOp) : OpR X (compareOp op) (rCmpD X.K fa op) := by
  cases op
  case Eq => exact op_eqX hu
  case NotEq => exact op_neX hu
  case In => exact op_inX hu
  case NotIn => exact op_notInX hu
  case Lt =>
    intro pins s σ H x y v u Q I rx ry h
    obtain ⟨B, F, e, τ, d, d', r, fr, hr, cx, cy, hg, q⟩ := h
    obtain ⟨k, hk, e1, e2⟩ := map_bl hg
    subst e1 e2
    have fin : Q (.bl k) H := q.flat hr (by simp only [DR])
    simp only [cmpD] at hk
    split at hk
    · cases hk
      simp only [CR, DR] at cx cy
      exact op_lt pins s σ H x y v u Q I rx ry ⟨_, _, cx, cy, fin⟩
    · cases hk
  case LtE =>
    intro pins s σ H x y v u Q I rx ry h
    obtain ⟨B, F, e, τ, d, d', r, fr, hr, cx, cy, hg, q⟩ := h
    obtain ⟨k, hk, e1, e2⟩ := map_bl hg
    subst e1 e2
    have fin : Q (.bl k) H := q.flat hr (by simp only [DR])
    simp only [cmpD] at hk
    split at hk
    · cases hk
      simp only [CR, DR] at cx cy
      exact op_le pins s σ H x y v u Q I rx ry ⟨_, _, cx, cy, fin⟩
    · cases hk
  case Gt =>
    intro pins s σ H x y v u Q I rx ry h
    obtain ⟨B, F, e, τ, d, d', r, fr, hr, cx, cy, hg, q⟩ := h
    obtain ⟨k, hk, e1, e2⟩ := map_bl hg
    subst e1 e2
    have fin : Q (.bl k) H := q.flat hr (by simp only [DR])
    simp only [cmpD] at hk
    split at hk
    · cases hk
      simp only [CR, DR] at cx cy
      exact op_gt pins s σ H x y v u Q I rx ry ⟨_, _, cx, cy, fin⟩
    · cases hk
  case GtE =>
    intro pins s σ H x y v u Q I rx ry h
    obtain ⟨B, F, e, τ, d, d', r, fr, hr, cx, cy, hg, q⟩ := h
    obtain ⟨k, hk, e1, e2⟩ := map_bl hg
    subst e1 e2
    have fin : Q (.bl k) H := q.flat hr (by simp only [DR])
    simp only [cmpD] at hk
    split at hk
    · cases hk
      simp only [CR, DR] at cx cy
      exact op_ge pins s σ H x y v u Q I rx ry ⟨_, _, cx, cy, fin⟩
    · cases hk
  case Is =>
    intro pins s σ H x y v u Q I rx ry h
    obtain ⟨B, F, e, τ, d, d', r, fr, hr, cx, cy, hg, q⟩ := h
    obtain ⟨k, hk, e1, e2⟩ := map_bl hg
    subst e1 e2
    have fin : Q (.bl k) H := q.flat hr (by simp only [DR])
    simp only [cmpD] at hk
    split at hk
    · cases hk
      have cy' : y = .non := by simpa only [CR, DR] using cy
      refine op_isN pins s σ H x y v u Q I rx ry ⟨cy', ?_⟩
      rw [is_ok cx]
      exact fin
    · cases hk
  case IsNot =>
    intro pins s σ H x y v u Q I rx ry h
    obtain ⟨B, F, e, τ, d, d', r, fr, hr, cx, cy, hg, q⟩ := h
    obtain ⟨k, hk, e1, e2⟩ := map_bl hg
    subst e1 e2
    have fin : Q (.bl k) H := q.flat hr (by simp only [DR])
    simp only [cmpD] at hk
    split at hk
    · cases hk
      have cy' : y = .non := by simpa only [CR, DR] using cy
      refine op_notN pins s σ H x y v u Q I rx ry ⟨cy', ?_⟩
      rw [is_ok cx]
      exact fin
    · cases hk
/-- truth -/
theorem tru_of {F H : Hp} {d : D} {x : V} {k : Bool} (l : Le F H) (h : truD d = some k) (cx : CR K0 fa F H d x) : TruV K0 x H k := by
  cases d <;> simp only [CR, DR] at cx <;> simp only [truD] at h
  case non =>
    cases h
    subst cx
    rfl
  case bl b =>
    cases h
    subst cx
    rfl
  case int i =>
    cases h
    subst cx
    rfl
  case str s =>
    subst cx
    split at h
    · rename_i hc
      cases h
      have z : s.length ≤ sizeLine := of_decide_eq_true hc
      refine ⟨by simpa [Str.length] using z, ?_⟩
      cases s <;> simp [Str.length]
      omega
    · cases h
  case lst ds =>
    cases h
    obtain ⟨a, vs, e, hp, r⟩ := cx
    subst e
    refine .inl ⟨vs, SqL.of hp, ?_⟩
    have := DRs.length r
    cases ds <;> cases vs <;> simp_all
  case tup ds =>
    cases h
    obtain ⟨a, vs, e, hp, r⟩ := cx
    subst e
    refine .inr (.inl ⟨vs, SqT.le l hp, ?_⟩)
    have := DRs.length r
    cases ds <;> cases vs <;> simp_all
  case dct ks ds =>
    cases h
    obtain ⟨a, kvs, e, hp, r1, r2⟩ := cx
    subst e
    refine .inr (.inr ⟨kvs, hp, ?_⟩)
    cases ks with
    | nil =>
      simp only [keysD, Option.some.injEq] at r1
      cases kvs with
      | nil => rfl
      | cons a b => cases r1
    | cons c cs =>
      cases kvs with
      | nil =>
        simp only [keysD] at r1
        split at r1 <;> cases r1
      | cons a b => rfl
  all_goals cases h
/-- x[i] -/
theorem atI_DR {F : Hp} {ds : List D} {vs : List V} {i : Int} {d : D} (r : DRs K0 fa F ds vs) (h : atI ds i = some d) : ∃ v, atI vs i = some v ∧ DR K0 fa F d v := by
  unfold atI at h ⊢
  rw [← DRs.length r]
  cases z : ixN ds.length i with
  | none =>
    rw [z] at h
    cases h
  | some j =>
    rw [z] at h
    exact DRs.get r h
def rIxD (K : PySem.W.Frag) (fa : Nat → Addr) : R2 := rTwo K fa fun d d' => (ixD d d').map fun r => (r, false)
theorem map_fst {α : Type} {o : Option α} {f : α → D × Bool} {r : D} {fr : Bool} (h : o.map f = some (r, fr)) : ∃ k, o = some k ∧ f k = (r, fr) := by
  cases o with
  | none => cases h
  | some k => exact ⟨k, rfl, Option.some.inj h⟩
theorem ix_ok : IxR X (rIxD X.K fa) := by
  intro value slice pins s σ H x y v u Q I rx ry h hsl
  obtain ⟨B, F, e, τ, d, d', r, fr, hr, cx, cy, hg, q⟩ := h
  obtain ⟨k, hk, e1⟩ := map_fst hg
  cases e1
  unfold ixD at hk
  split at hk
  · simp only [CR, DR] at cx cy
    obtain ⟨p, vs, ex, hp, rx'⟩ := cx
    obtain ⟨w, h1, h2⟩ := atI_DR rx' hk
    refine ix_list value slice pins s σ H x y v u Q I rx ry ⟨p, vs, _, w, ex, cy, SqL.of hp, h1, q.flat hr h2⟩ hsl
  · simp only [CR, DR] at cx cy
    obtain ⟨p, vs, ex, hp, rx'⟩ := cx
    obtain ⟨w, h1, h2⟩ := atI_DR rx' hk
    refine ix_tup value slice pins s σ H x y v u Q I rx ry ⟨p, vs, _, w, ex, cy, SqT.le hr.sub hp, h1, q.flat hr h2⟩ hsl
  · rename_i a i
    simp only [CR, DR] at cx cy
    split at hk
    · rename_i hc
      cases z : atI a i with
      | none =>
        rw [z] at hk
        cases hk
      | some c =>
        rw [z] at hk
        cases hk
        have z2 : a.length ≤ sizeLine := of_decide_eq_true hc
        refine ix_str value slice pins s σ H x y v u Q I rx ry ⟨⟨a.toArray⟩, i, c, cx, cy, by simpa [Str.length] using z2, by simpa using z, q.flat hr (by simp only [DR])⟩ hsl
    · cases hk
  · cases hk
/-- x[lo:hi] -/
def rSlD (K : PySem.W.Frag) (fa : Nat → Addr) : V → Option Int → Option Int → Hp → VK → Prop := fun x lo hi H Q => ∃ (B : Bs) (F : Hp) (e : Ev) (σ : L2.St) (d r : D) (fr : Bool),
  SR K fa B F e σ H ∧ CR K fa F H d x ∧ slD d lo hi = some (r, fr) ∧ Fin K fa B F e σ r fr Q
theorem cut_DR {F : Hp} {ds : List D} {vs : List V} (lo hi : Option Int) (r : DRs K0 fa F ds vs) : DRs K0 fa F (cutD ds lo hi) (cutV vs lo hi) := by
  unfold cutD cutV
  rw [DRs.length r]
  exact DRs.take _ (DRs.drop _ r)
theorem sl_ok : L2.SlR X (rSlD X.K fa) := by
  intro pins s σ H x v vl vu lo hi sl Q I rx hs pl pu h
  obtain ⟨B, F, e, τ, d, r, fr, hr, cx, hg, q⟩ := h
  unfold slD at hg
  split at hg
  · obtain ⟨e1, e2⟩ := some_pair hg
    subst e1 e2
    simp only [CR] at cx
    obtain ⟨p, vs, ex, hp, rx'⟩ := cx
    refine sl_list pins s σ H x v vl vu lo hi sl Q I rx hs pl pu ⟨p, vs, ex, SqL.of hp, fun b hb => q.new hr hb ?_⟩
    simp only [OR]
    exact ⟨_, rfl, cut_DR lo hi rx'⟩
  · rename_i ds
    obtain ⟨e1, e2⟩ := some_pair hg
    subst e1 e2
    have cx0 : DR X.K fa F (.tup ds) x := by simpa only [CR] using cx
    have cx1 := cx0
    simp only [DR] at cx1
    obtain ⟨p, vs, ex, hp, rx'⟩ := cx1
    refine sl_tupA pins s σ H x v vl vu lo hi sl Q I rx hs pl pu ⟨p, vs, ex, SqT.le hr.sub hp, fun hw => ?_, fun hw b hb => q.newT hr hb ?_⟩
    · rw [← ex]
      have z : cutD ds lo hi = ds := by
        unfold cutD
        rw [DRs.length rx', hw.1, hw.2, ← DRs.length rx']
        simp
      rw [z] at q
      exact q.flat hr cx0
    · simp only [OR]
      exact ⟨_, rfl, cut_DR lo hi rx'⟩
  · rename_i a
    split at hg
    · rename_i hc
      obtain ⟨e1, e2⟩ := some_pair hg
      subst e1 e2
      simp only [CR, DR] at cx
      have z2 : a.length ≤ sizeLine := of_decide_eq_true hc
      refine sl_str pins s σ H x v vl vu lo hi sl Q I rx hs pl pu ⟨⟨a.toArray⟩, cx, by simpa [Str.length] using z2, q.flat hr ?_⟩
      simp only [DR]
      unfold cutS cutD
      simp [Str.length]
    · cases hg
  · cases hg
end
end EV
/-! Built-ins and methods. -/
namespace EV
open PySem L2
section
variable (K : PySem.W.Frag) (fa : Nat → Addr)
def CRs (F H : Hp) : List D → List V → Prop
  | [], vs => vs = []
  | d :: ds, vs => ∃ v r, vs = v :: r ∧ CR K fa F H d v ∧ CRs F H ds r
end
section
variable {K : PySem.W.Frag} {fa : Nat → Addr} {F F' H H' : Hp}
theorem CRs.one {d : D} {vs : List V} (h : CRs K fa F H [d] vs) : ∃ v, vs = [v] ∧ CR K fa F H d v := by
  simp only [CRs] at h
  obtain ⟨v, r, e1, h1, h2⟩ := h
  subst e1 h2
  exact ⟨v, rfl, h1⟩
theorem CRs.two {d d' : D} {vs : List V} (h : CRs K fa F H [d, d'] vs) : ∃ v w, vs = [v, w] ∧ CR K fa F H d v ∧ CR K fa F H d' w := by
  simp only [CRs] at h
  obtain ⟨v, r, e1, h1, v', r', e2, h2, h3⟩ := h
  subst e1 e2 h3
  exact ⟨v, v', rfl, h1, h2⟩
theorem CRs.nil {vs : List V} (h : CRs K fa F H [] vs) : vs = [] := by simpa only [CRs] using h
end
def biV : Bi → Value
  | .len => .builtin "len" | .intF => .type "int" | .strF => .type "str" | .absF => .builtin "abs" | .sum => .builtin "sum" | .min1 => .builtin "min" | .max1 => .builtin "max"
  | .min2 => .builtin "min" | .max2 => .builtin "max" | .sorted => .builtin "sorted" | .listF => .type "list" | .tupleF => .type "tuple"
theorem minL_ok : ∀ (n : Int) (ns : List Int), minL (n :: ns) ∈ n :: ns ∧ ∀ y ∈ n :: ns, minL (n :: ns) ≤ y
  | n, [] => ⟨by simp [minL], fun y h => by simp [minL] at h ⊢; omega⟩
  | n, m :: ns => by
    obtain ⟨h1, h2⟩ := minL_ok m ns
    have e : minL (n :: m :: ns) = min n (minL (m :: ns)) := rfl
    rw [e]
    refine ⟨?_, fun y h => ?_⟩
    · by_cases c : n ≤ minL (m :: ns)
      · rw [Int.min_eq_left c]
        exact List.mem_cons_self
      · rw [Int.min_eq_right (by omega)]
        exact List.mem_cons_of_mem _ h1
    · rcases List.mem_cons.mp h with z | z
      · subst z
        exact Int.min_le_left _ _
      · exact Int.le_trans (Int.min_le_right _ _) (h2 y z)
theorem maxL_ok : ∀ (n : Int) (ns : List Int), maxL (n :: ns) ∈ n :: ns ∧ ∀ y ∈ n :: ns, y ≤ maxL (n :: ns)
  | n, [] => ⟨by simp [maxL], fun y h => by simp [maxL] at h ⊢; omega⟩
  | n, m :: ns => by
    obtain ⟨h1, h2⟩ := maxL_ok m ns
    have e : maxL (n :: m :: ns) = max n (maxL (m :: ns)) := rfl
    rw [e]
    refine ⟨?_, fun y h => ?_⟩
    · by_cases c : maxL (m :: ns) ≤ n
      · rw [Int.max_eq_left c]
        exact List.mem_cons_self
      · rw [Int.max_eq_right (by omega)]
        exact List.mem_cons_of_mem _ h1
    · rcases List.mem_cons.mp h with z | z
      · subst z
        exact Int.le_max_left _ _
      · exact Int.le_trans (h2 y z) (Int.le_max_right _ _)
theorem sortI_perm (ns : List Int) : (sortI ns).Perm ns := List.mergeSort_perm _ _
theorem sortI_sorted (ns : List Int) : (sortI ns).Pairwise (· ≤ ·) := by
  have h := List.pairwise_mergeSort (le := fun (a b : Int) => decide (a ≤ b)) (fun a b c h1 h2 => by simp at h1 h2 ⊢; omega) (fun a b => by simp; omega) ns
  exact h.imp fun h => by simpa using h
theorem codes_ok (i : Int) : (⟨(codesOf i).toArray⟩ : Str) = Str.ofString (toString i) := TL.ext_tl (by rw [TL.tl_ofString] <;> rfl)
section
variable {X : Cx} {fa : Nat → Addr}
def rBi (K : PySem.W.Frag) (fa : Nat → Addr) (b : Bi) : List V → Hp → VK → Prop := fun xs H Q => ∃ (B : Bs) (F : Hp) (e : Ev) (σ : L2.St) (ds : List D) (r : D) (fr : Bool),
  SR K fa B F e σ H ∧ CRs K fa F H ds xs ∧ biD b ds = some (r, fr) ∧ Fin K fa B F e σ r fr Q
theorem bi_ok (hc : X.calm = true) (b : Bi) : CallR X (biV b) (rBi X.K fa b) := by
  intro pins s σ H xs us Q I rv h
  obtain ⟨B, F, e, τ, ds, r, fr, hr, cx, hg, q⟩ := h
  unfold biD at hg
  split at hg
  -- len
  · split at hg
    · rename_i z hz
      obtain ⟨e1, e2⟩ := some_pair hg
      obtain ⟨v, ev, cv⟩ := cx.one
      simp only [CR, DR] at cv
      subst e1 e2 ev cv
      have z2 : z.length ≤ sizeLine := of_decide_eq_true hz
      refine call_len_str pins s σ H _ us Q I rv ⟨_, rfl, by simpa [Str.length] using z2, q.flat hr ?_⟩
      simp [DR, Str.length]
    · cases hg
  · obtain ⟨e1, e2⟩ := some_pair hg
    obtain ⟨v, ev, cv⟩ := cx.one
    simp only [CR] at cv
    obtain ⟨p, vs, ex, hp, rx⟩ := cv
    subst e1 e2 ev ex
    refine call_len_seq pins s σ H _ us Q I rv ⟨p, vs, rfl, .inl (SqL.of hp), q.flat hr ?_⟩
    simp only [DR]
    rw [DRs.length rx]
  · obtain ⟨e1, e2⟩ := some_pair hg
    obtain ⟨v, ev, cv⟩ := cx.one
    simp only [CR, DR] at cv
    obtain ⟨p, vs, ex, hp, rx⟩ := cv
    subst e1 e2 ev ex
    refine call_len_seq pins s σ H _ us Q I rv ⟨p, vs, rfl, .inr (SqT.le hr.sub hp), q.flat hr ?_⟩
    simp only [DR]
    rw [DRs.length rx]
  -- int
  · obtain ⟨e1, e2⟩ := some_pair hg
    obtain ⟨v, ev, cv⟩ := cx.one
    simp only [CR, DR] at cv
    subst e1 e2 ev cv
    exact call_int1 pins s σ H _ us Q I rv (.inl ⟨_, rfl, q.flat hr (by simp only [DR])⟩)
  · split at hg
    · rename_i a hz
      obtain ⟨v, ev, cv⟩ := cx.one
      simp only [CR, DR] at cv
      subst ev cv
      cases z : PySem.intText? ⟨a.toArray⟩ with
      | none =>
        rw [z] at hg
        cases hg
      | some n =>
        rw [z] at hg
        obtain ⟨e1, e2⟩ := some_pair hg
        subst e1 e2
        have z2 : a.length ≤ 640 := of_decide_eq_true hz
        exact call_int_str pins s σ H _ us Q I rv ⟨_, n, rfl, z, by simpa [Str.length] using z2, q.flat hr (by simp only [DR])⟩
    · cases hg
  · obtain ⟨e1, e2⟩ := some_pair hg
    obtain ⟨v, ev, cv⟩ := cx.one
    simp only [CR, DR] at cv
    subst e1 e2 ev cv
    exact call_int1 pins s σ H _ us Q I rv (.inr ⟨_, rfl, q.flat hr (by simp only [DR])⟩)
  -- abs
  · obtain ⟨e1, e2⟩ := some_pair hg
    obtain ⟨v, ev, cv⟩ := cx.one
    simp only [CR, DR] at cv
    subst e1 e2 ev cv
    exact call_abs pins s σ H _ us Q I rv ⟨_, rfl, q.flat hr (by simp only [DR])⟩
  -- str
  · split at hg
    · rename_i i hz
      obtain ⟨e1, e2⟩ := some_pair hg
      obtain ⟨v, ev, cv⟩ := cx.one
      simp only [CR, DR] at cv
      subst e1 e2 ev cv
      refine call_str_int pins s σ H _ us Q I rv ⟨_, rfl, of_decide_eq_true hz, q.flat hr ?_⟩
      simp only [DR]
      rw [codes_ok]
    · cases hg
  -- sum
  · rename_i ys
    cases z : ints? ys with
    | none =>
      rw [z] at hg
      cases hg
    | some ns =>
      rw [z] at hg
      obtain ⟨e1, e2⟩ := some_pair hg
      obtain ⟨v, ev, cv⟩ := cx.one
      simp only [CR] at cv
      obtain ⟨p, vs, ex, hp, rx⟩ := cv
      obtain ⟨k1, k2⟩ := DRs.ints z rx
      subst e1 e2 ev ex k1
      exact cr_sum hc pins s σ H _ us Q I rv ⟨p, ns, rfl, SqL.of hp, q.flat hr (by simp only [DR])⟩
  -- min, max
  · split at hg
    · rename_i ys n ns z
      obtain ⟨e1, e2⟩ := some_pair hg
      obtain ⟨v, ev, cv⟩ := cx.one
      simp only [CR] at cv
      obtain ⟨p, vs, ex, hp, rx⟩ := cv
      obtain ⟨k1, k2⟩ := DRs.ints z rx
      subst e1 e2 ev ex k1
      refine cr_min hc pins s σ H _ us Q I rv ⟨p, n :: ns, rfl, SqL.of hp, Nat.succ_pos _, fun m h1 h2 => ?_⟩
      obtain ⟨g1, g2⟩ := minL_ok n ns
      have em : m = minL (n :: ns) := Int.le_antisymm (h2 _ g1) (g2 m h1)
      rw [em]
      exact q.flat hr (by simp only [DR])
    · cases hg
  · split at hg
    · rename_i ys n ns z
      obtain ⟨e1, e2⟩ := some_pair hg
      obtain ⟨v, ev, cv⟩ := cx.one
      simp only [CR] at cv
      obtain ⟨p, vs, ex, hp, rx⟩ := cv
      obtain ⟨k1, k2⟩ := DRs.ints z rx
      subst e1 e2 ev ex k1
      refine cr_max hc pins s σ H _ us Q I rv ⟨p, n :: ns, rfl, SqL.of hp, Nat.succ_pos _, fun m h1 h2 => ?_⟩
      obtain ⟨g1, g2⟩ := maxL_ok n ns
      have em : m = maxL (n :: ns) := Int.le_antisymm (g2 m h1) (h2 _ g1)
      rw [em]
      exact q.flat hr (by simp only [DR])
    · cases hg
  · obtain ⟨e1, e2⟩ := some_pair hg
    obtain ⟨v, w, ev, cv, cw⟩ := cx.two
    simp only [CR, DR] at cv cw
    subst e1 e2 ev cv cw
    exact call_min2 hc pins s σ H _ us Q I rv ⟨_, _, rfl, q.flat hr (by simp only [DR])⟩
  · obtain ⟨e1, e2⟩ := some_pair hg
    obtain ⟨v, w, ev, cv, cw⟩ := cx.two
    simp only [CR, DR] at cv cw
    subst e1 e2 ev cv cw
    exact call_max2 hc pins s σ H _ us Q I rv ⟨_, _, rfl, q.flat hr (by simp only [DR])⟩
  -- sorted
  · rename_i ys
    cases z : ints? ys with
    | none =>
      rw [z] at hg
      cases hg
    | some ns =>
      rw [z] at hg
      obtain ⟨e1, e2⟩ := some_pair hg
      obtain ⟨v, ev, cv⟩ := cx.one
      simp only [CR] at cv
      obtain ⟨p, vs, ex, hp, rx⟩ := cv
      obtain ⟨k1, k2⟩ := DRs.ints z rx
      subst e1 e2 ev ex k1
      refine cr_sortedI pins s σ H _ us Q I rv ⟨p, ns, rfl, SqL.of hp, fun ns' p' g1 g2 hp' => q.new hr hp' ?_⟩
      have e3 : ns' = sortI ns := g1.trans (sortI_perm ns).symm |>.eq_of_pairwise (fun x y _ _ h1 h2 => Int.le_antisymm h1 h2) g2 (sortI_sorted ns)
      rw [e3]
      simp only [OR]
      exact ⟨_, rfl, DRs.ofInts _⟩
  -- list, tuple
  · obtain ⟨e1, e2⟩ := some_pair hg
    obtain ⟨v, ev, cv⟩ := cx.one
    simp only [CR] at cv
    obtain ⟨p, vs, ex, hp, rx⟩ := cv
    subst e1 e2 ev ex
    refine call_list_of pins s σ H _ us Q I rv ⟨p, vs, rfl, .inl (SqL.of hp), fun l hl => q.new hr hl ?_⟩
    simp only [OR]
    exact ⟨_, rfl, rx⟩
  · obtain ⟨e1, e2⟩ := some_pair hg
    obtain ⟨v, ev, cv⟩ := cx.one
    simp only [CR, DR] at cv
    obtain ⟨p, vs, ex, hp, rx⟩ := cv
    subst e1 e2 ev ex
    refine call_list_of pins s σ H _ us Q I rv ⟨p, vs, rfl, .inr (SqT.le hr.sub hp), fun l hl => q.new hr hl ?_⟩
    simp only [OR]
    exact ⟨_, rfl, rx⟩
  · obtain ⟨e1, e2⟩ := some_pair hg
    obtain ⟨v, ev, cv⟩ := cx.one
    simp only [CR] at cv
    obtain ⟨p, vs, ex, hp, rx⟩ := cv
    subst e1 e2 ev ex
    refine call_tuple_of pins s σ H _ us Q I rv ⟨p, vs, rfl, .inl ⟨SqL.of hp, fun l hl => q.newT hr hl ?_⟩⟩
    simp only [OR]
    exact ⟨_, rfl, rx⟩
  · obtain ⟨e1, e2⟩ := some_pair hg
    obtain ⟨v, ev, cv⟩ := cx.one
    have cv0 := cv
    simp only [CR, DR] at cv
    obtain ⟨p, vs, ex, hp, rx⟩ := cv
    subst e1 e2 ev ex
    refine call_tuple_of pins s σ H _ us Q I rv ⟨p, vs, rfl, .inr ⟨SqT.le hr.sub hp, q.flat hr ?_⟩⟩
    simpa only [CR] using cv0
  · cases hg
/-! ### isinstance -/
def tyN : Ty → String
  | .int => "int" | .bool => "bool" | .str => "str" | .list => "list" | .tuple => "tuple" | .dict => "dict"
def rIsiD (K : PySem.W.Frag) (fa : Nat → Addr) (t : Ty) : List V → Hp → VK → Prop := fun xs H Q => ∃ (B : Bs) (F : Hp) (e : Ev) (σ : L2.St) (d : D) (x : V) (k : Bool),
  xs = [x, .ty (tyN t)] ∧ SR K fa B F e σ H ∧ CR K fa F H d x ∧ isiD d t = some k ∧ Fin K fa B F e σ (.bl k) false Q
theorem isi_ok (t : Ty) : CallR X (.builtin "isinstance") (rIsiD X.K fa t) := by
  intro pins s σ H xs us Q I rv h
  obtain ⟨B, F, e, τ, d, x, k, ex, hr, cx, hg, q⟩ := h
  have fin : Q (.bl k) H := q.flat hr (by simp only [DR])
  have go : ∀ {T : String}, TyX X.K H x (.type T) → kitB T (tyN t) = some k → wpAny (model X.prog X.w) X.A (call (.builtin "isinstance") us) (EP X pins σ Q) X.xe s := fun {T} h1 h2 =>
    call_isi pins s σ H xs us Q I rv ⟨x, .ty (tyN t), _, _, k, ex, .ty _, h1, kit_ty h2, fin⟩
  cases d with
  | non =>
    simp only [CR, DR] at cx
    subst cx
    cases hg
    refine go (T := "NoneType") (.base .non) ?_
    cases t <;> decide +kernel
  | bl b =>
    simp only [CR, DR] at cx
    subst cx
    cases t <;> cases hg <;> exact go (T := "bool") (.base (.bl b)) (by decide +kernel)
  | int b =>
    simp only [CR, DR] at cx
    subst cx
    cases t <;> cases hg <;> exact go (T := "int") (.base (.int b)) (by decide +kernel)
  | str b =>
    simp only [CR, DR] at cx
    subst cx
    cases t <;> cases hg <;> exact go (T := "str") (.base (.str _)) (by decide +kernel)
  | lst ds =>
    simp only [CR] at cx
    obtain ⟨p, vs, e1, hp, _⟩ := cx
    subst e1
    cases t <;> cases hg <;> exact go (T := "list") (.base (.lst hp)) (by decide +kernel)
  | tup ds =>
    simp only [CR, DR] at cx
    obtain ⟨p, vs, e1, hp, _⟩ := cx
    subst e1
    have ty : TyX X.K H (.ref p) (.type "tuple") := by
      rcases hp with (hp | ⟨o, hp⟩) | ⟨o, its, n, hk, hc, _⟩
      · exact .base (.tup (hr.sub _ _ hp))
      · exact .fTuple (hr.sub _ _ hp)
      · exact .kTuple hk hc
    cases t <;> cases hg <;> exact go (T := "tuple") ty (by decide +kernel)
  | dct ks ds =>
    simp only [CR] at cx
    obtain ⟨p, vs, e1, hp, _⟩ := cx
    subst e1
    cases t <;> cases hg <;> exact go (T := "dict") (.base (.dK hp)) (by decide +kernel)
  | fn i => cases hg
  | scr ns => cases hg
/-! ### methods -/
def meId : Me → String
  | .join => "str.join"
def meT : Me → String
  | .join => "str"
def rMe (K : PySem.W.Frag) (fa : Nat → Addr) (m : Me) : V → List V → Hp → VK → Prop := fun x xs H Q => ∃ (B : Bs) (F : Hp) (e : Ev) (σ : L2.St) (d : D) (ds : List D) (r : D) (fr : Bool),
  SR K fa B F e σ H ∧ CR K fa F H d x ∧ CRs K fa F H ds xs ∧ meD m d ds = some (r, fr) ∧ Fin K fa B F e σ r fr Q
theorem me_ok (m : Me) : MtR X (meId m) (rMe X.K fa m) := by
  intro pins s σ H x xs v us Q I rx rv h
  obtain ⟨B, F, e, τ, d, ds, r, fr, hr, cx, cxs, hg, q⟩ := h
  unfold meD at hg
  split at hg
  · rename_i a ys
    split at hg
    · rename_i zs hz
      split at hg
      · rename_i hl
        obtain ⟨e1, e2⟩ := some_pair hg
        obtain ⟨v', ev, cv⟩ := cxs.one
        simp only [CR, DR] at cx cv
        obtain ⟨p, vs, ex, hp, ry⟩ := cv
        have k1 := DRs.strs hz ry
        subst e1 e2 cx ev ex k1
        refine mt_join pins s σ H _ _ v us Q I rx rv ⟨_, p, _, rfl, rfl, .inl (SqL.of hp), ?_, q.flat hr ?_⟩
        · have z : (zs.map (·.length)).sum + zs.length * a.length ≤ sizeLine := of_decide_eq_true hl
          rw [sizeLine_eq] at z
          simp only [List.map_map, List.length_map]
          have e3 : ((fun x : Str => x.length) ∘ fun z : List Nat => (⟨z.toArray⟩ : Str)) = fun z : List Nat => z.length := by
            funext z
            simp [Str.length]
          rw [e3]
          simpa [Str.length] using z
        · simp only [DR]
          have e4 : Txt.join (⟨a.toArray⟩ : Str) (zs.map fun z => (⟨z.toArray⟩ : Str)) = ⟨(TL.joinL a zs).toArray⟩ := by
            apply TL.ext_tl
            rw [TL.join_eq, TL.tl_join, List.map_map]
            show TL.joinL a (zs.map _) = TL.joinL a zs
            congr 1
            exact List.map_id'' (fun z => rfl) zs
          rw [e4]
      · cases hg
    · cases hg
  · cases hg
theorem meTy_ok {F H : Hp} {K : PySem.W.Frag} {m : Me} {d : D} {x : V} (h : meTy m d = true) (cx : CR K fa F H d x) : tyV K (meT m) x H := by
  cases m <;> cases d <;> try (cases h)
  simp only [CR, DR] at cx
  subst cx
  rfl
/-! ### methods that change -/
def muId : Mu → String
  | .append => "list.append"
  | .pop => "list.pop"
/-- the receiver stands in slot i -/
def rMu (K : PySem.W.Frag) (fa : Nat → Addr) (m : Mu) (i : Nat) : V → List V → Hp → VK → Prop := fun x xs H Q => ∃ (B : Bs) (F : Hp) (e : Ev) (σ : L2.St) (d : D) (ds : List D) (d' r : D),
  SR K fa B F e σ H ∧ σ[i]? = some (some x) ∧ e[i]? = some (.ow d) ∧ DRs K fa F ds xs ∧ muD m d ds = some (d', r) ∧ Fin K fa B F (e.set i (.ow d')) σ r false Q
theorem mu_ok (m : Mu) (i : Nat) : MtR X (muId m) (rMu X.K fa m i) := by
  intro pins s σ H x xs v us Q I rx rv h
  obtain ⟨B, F, e, τ, d, ds, d', r, hr, hx, he, cxs, hg, q⟩ := h
  obtain ⟨p, o, h1, h2, h3, h4, h5, hm⟩ := hr.ow he
  rw [hx] at h1
  cases h1
  unfold muD at hg
  split at hg
  · rename_i ys y
    split at hg
    · rename_i hl
      cases hg
      simp only [OR] at h3
      obtain ⟨vs, eo, ry⟩ := h3
      simp only [DRs] at cxs
      obtain ⟨w, r', e1, c1, e2⟩ := cxs
      subst eo e1 e2
      have hl' : ys.length < sizeLine := of_decide_eq_true hl
      have ho : OR X.K fa F (.lst (ys ++ [y])) (.lst (vs ++ [w])) := by
        simp only [OR]
        exact ⟨_, rfl, DRs.append ry (DRs.cons c1 DRs.nil)⟩
      refine mt_append pins s σ H _ _ v us Q I rx rv ⟨p, vs, w, rfl, rfl, h2, by rw [← DRs.length ry]; exact hl', ?_⟩
      exact q.flat (hr.write he hx ho rfl) (by simp only [DR])
    · cases hg
  · rename_i ys
    split at hg
    · rename_i y hy
      cases hg
      simp only [OR] at h3
      obtain ⟨vs, eo, ry⟩ := h3
      simp only [DRs] at cxs
      subst eo cxs
      obtain ⟨w, g1, g2⟩ := DRs.get ry hy
      have ho : OR X.K fa F (.lst ys.dropLast) (.lst vs.dropLast) := by
        simp only [OR]
        exact ⟨_, rfl, DRs.dropLast ry⟩
      refine mt_pop pins s σ H _ _ v us Q I rx rv ⟨p, vs, w, rfl, rfl, h2, by rw [← DRs.length ry]; exact g1, ?_⟩
      exact q.flat (hr.write he hx ho rfl) g2
    · cases hg
  · cases hg
theorem muTy_ok {F H : Hp} {K : PySem.W.Frag} {m : Mu} {d : D} {o : HO} {p : Addr} (h : muTy m d = true) (hp : H p = some o) (ho : OR K fa F d o) : tyV K "list" (.ref p) H := by
  cases m <;> cases d <;> try (cases h)
  all_goals
    simp only [OR] at ho
    obtain ⟨vs, e, _⟩ := ho
    subst e
    exact .inl ⟨rfl, vs, SqL.of hp⟩
/-- x[k] = y, x in slot i -/
def rSetD (K : PySem.W.Frag) (fa : Nat → Addr) (i : Nat) : TSet := fun x k y H Q => ∃ (B : Bs) (F : Hp) (e : Ev) (σ : L2.St) (c j d c' : D),
  SR K fa B F e σ H ∧ σ[i]? = some (some x) ∧ e[i]? = some (.ow c) ∧ DR K fa F j k ∧ DR K fa F d y ∧ setD c j d = some c' ∧ ∀ F' H', Le F F' → SR K fa B F' (e.set i (.ow c')) σ H' → Q H'
theorem set_ok (i : Nat) : PSet X (rSetD X.K fa i) := by
  intro pins s σ H x k y ov iv u Q I rx rk ry h
  obtain ⟨B, F, e, τ, c, j, d, c', hr, hx, he, dk, dy, hg, q⟩ := h
  obtain ⟨p, o, h1, h2, h3, h4, h5, hm⟩ := hr.ow he
  rw [hx] at h1
  cases h1
  unfold setD at hg
  split at hg
  · rename_i ys n
    cases z : ixN ys.length n with
    | none =>
      rw [z] at hg
      cases hg
    | some m =>
      rw [z] at hg
      cases hg
      simp only [OR] at h3
      obtain ⟨vs, eo, rr⟩ := h3
      simp only [DR] at dk
      subst eo dk
      have ho : OR X.K fa F (.lst (ys.set m d)) (.lst (vs.set m y)) := by
        simp only [OR]
        exact ⟨_, rfl, DRs.set m dy rr⟩
      exact set_list pins s σ H _ _ y ov iv u Q I rx rk ry ⟨p, vs, n, m, rfl, rfl, h2, by rw [← DRs.length rr]; exact z, q F _ (Le.refl F) (hr.write he hx ho rfl)⟩
  · cases hg
end
end EV
/-! The text and its evaluator's text. -/
namespace EV
open PySem L2
/-! ### is the one the other -/
def okE : Expr → Bool
  | .Starred .. | .Slice .. | .Set .. | .NamedExpr .. => false
  | _ => true
/-- an expression whose test is its value's truth -/
def plainT : Expr → Bool
  | .BoolOp .. | .IfExp .. | .Compare .. => false
  | .UnaryOp .Not .. => false
  | _ => true
def okRecv : Expr → Bool
  | .Call _ [] _ _ => false
  | _ => true
structure ErR where
  e : Expr → Bool
  es : List Expr → Bool
  i : Expr → Bool
  o : Option Expr → Bool
  c : List Expr → Bool
def eF (f : Expr → Bool) : ErR where
  e := fun x => okE x && f x
  es := fun _ => false
  i := fun x => okE x && f x
  o := fun x => match x with
    | some x => okE x && f x
    | none => false
  c := fun x => match x with
    | [x] => okE x && f x
    | _ => false
def eNo : ErR := ⟨fun _ => false, fun _ => false, fun _ => false, fun _ => false, fun _ => false⟩
def visB (sc : Scope) (x : Str) : Bool := match sc.names.lookup x with
  | some .local | some .cell | some .free => true
  | _ => false
def locB (sc : Scope) (x : Str) : Bool := match sc.names.lookup x with
  | some .local => true
  | _ => false
def glB (sc : Scope) (x : Str) : Bool := match sc.names.lookup x with
  | some .globalImplicit => true
  | _ => false
def nmB (x : Str) : Bool := !(x == ("__debug__" : Str)) && !(x == ("__classdict__" : Str)) && !decide (x = "__name__")
def slotB (N : List Str) (sc : Scope) (i : Nat) (x : Str) : Bool := decide (N[i]? = some x) && visB sc x && nmB x
def litB : D → Const → Bool
  | .non, .none => true
  | .bl b, .bool c => b == c
  | .int i, .int j => decide (i = j)
  | .str s, .str x => decide (x.cps.toList = s)
  | _, _ => false
def biNm : Bi → Str
  | .len => "len" | .intF => "int" | .strF => "str" | .absF => "abs" | .sum => "sum" | .min1 => "min" | .max1 => "max" | .min2 => "min" | .max2 => "max" | .sorted => "sorted" | .listF => "list" | .tupleF => "tuple"
def meNm : Me → Str
  | .join => "join"
def muNm : Mu → Str
  | .append => "append"
  | .pop => "pop"
def tyNm (t : Ty) : Str := Str.ofString (tyN t)
def celB (sc : Scope) (x : Str) : Bool := match sc.names.lookup x with
  | some .cell => true
  | _ => false
/-- may be stored here: a local, a cell of this scope's own -/
def stB (sc : Scope) (fb : Str → Bool) (x : Str) : Bool := locB sc x || (celB sc x && fb x)
/-- a target of a for or of a comprehension: its names in their slots, of this scope -/
def tgB (N : List Str) (sc : Scope) (fb : Str → Bool) : Tg → Expr → Bool
  | .nm i, .Name x _ => decide (N[i]? = some x) && stB sc fb x
  | .tp is, .Tuple es _ _ => tgs is es
  | _, _ => false
where
  tgs : List Nat → List Expr → Bool
    | [], [] => true
    | i :: is, .Name x _ :: es => decide (N[i]? = some x) && stB sc fb x && tgs is es
    | _, _ => false
def tgIn (vs : List Nat) : Tg → Bool
  | .nm i => decide (i ∈ vs)
  | .tp is => is.all fun i => decide (i ∈ vs)
def erR (G : Cfg) (N : List Str) (lv : Bool) : SE → Scope → ErR
  | .var i, sc => eF fun x => match x with
    | .Name x _ => slotB N sc i x
    | _ => false
  | .lit d, _ => eF fun x => match x with
    | .Constant c _ _ => litB d c
    | _ => false
  | .glo g, sc => eF fun x => match x with
    | .Name x _ => (match G.glos[g]? with | some p => decide (p.1 = x) | none => false) && glB sc x && nmB x
    | _ => false
  | .fnv f, sc => eF fun x => match x with
    | .Name x _ => (match G.fns[f]? with | some p => decide (p.name = x) | none => false) && glB sc x && nmB x
    | _ => false
  | .bin op a b, sc => eF fun x => match x with
    | .BinOp l o r _ => decide (o = op) && (erR G N lv a sc).e l && (erR G N lv b sc).e r
    | _ => false
  | .una op a, sc => eF fun x => match x with
    | .UnaryOp o l _ => decide (o = op) && (match op with | .USub | .Invert => true | _ => false) && (erR G N lv a sc).e l
    | _ => false
  | .cmp op a b, sc => eF fun x => match x with
    | .Compare l [o] [r] _ => decide (o = op) && (erR G N lv a sc).e l && (erR G N lv b sc).e r
    | _ => false
  | .cmp2 o p a b c, sc => eF fun x => match x with
    | .Compare l [o', p'] [r, q] _ => decide (o' = o) && decide (p' = p) && (erR G N lv a sc).e l && (erR G N lv b sc).e r && (erR G N lv c sc).e q
    | _ => false
  | .and a b, sc => eF fun x => match x with
    | .BoolOp .And [l, r] _ => (erR G N lv a sc).e l && (erR G N lv b sc).e r
    | .BoolOp .And (l :: r :: q :: rest) p => (erR G N lv a sc).e l && (erR G N lv b sc).e (.BoolOp .And (r :: q :: rest) p)
    | _ => false
  | .or a b, sc => eF fun x => match x with
    | .BoolOp .Or [l, r] _ => (erR G N lv a sc).e l && (erR G N lv b sc).e r
    | .BoolOp .Or (l :: r :: q :: rest) p => (erR G N lv a sc).e l && (erR G N lv b sc).e (.BoolOp .Or (r :: q :: rest) p)
    | _ => false
  | .not a, sc => eF fun x => match x with
    | .UnaryOp .Not l _ => (erR G N lv a sc).e l
    | _ => false
  | .ife c a b, sc => eF fun x => match x with
    | .IfExp t l r _ => (erR G N lv c sc).e t && (erR G N lv a sc).e l && (erR G N lv b sc).e r
    | _ => false
  | .lst xs, sc => eF fun x => match x with
    | .List es _ => (erR G N lv xs sc).es es
    | _ => false
  | .tup xs, sc => eF fun x => match x with
    | .Tuple es _ _ => (erR G N lv xs sc).es es
    | _ => false
  | .ix a b, sc => eF fun x => match x with
    | .Subscript l r _ => (erR G N lv a sc).e l && (erR G N lv b sc).e r
    | _ => false
  | .sl a lo hi, sc => eF fun x => match x with
    | .Subscript l (.Slice l1 h1 none _) _ => (erR G N lv a sc).e l && (erR G N lv lo sc).o l1 && (erR G N lv hi sc).o h1
    | _ => false
  | .call f xs, sc => eF fun x => lv && match x with
    | .Call (.Name x _) es [] _ => (match G.fns[f]? with | some p => decide (p.name = x) | none => false) && glB sc x && nmB x && (erR G N lv xs sc).es es
    | _ => false
  | .callv i xs, sc => eF fun x => lv && match x with
    | .Call (.Name x _) (e :: es) [] _ => slotB N sc i x && (erR G N lv xs sc).es (e :: es)
    | _ => false
  | .bi b xs, sc => eF fun x => lv && match x with
    | .Call (.Name x _) (e :: es) [] _ => decide (x = biNm b) && glB sc x && (erR G N lv xs sc).es (e :: es)
    | _ => false
  | .isi a t, sc => eF fun x => match x with
    | .Call (.Name x _) [l, .Name y _] [] _ => decide (x = "isinstance") && glB sc x && decide (y = tyNm t) && glB sc y && (erR G N lv a sc).e l
    | _ => false
  | .me m r xs, sc => eF fun x => match x with
    | .Call (.Attribute o at_ ap) (e :: es) [] cp => decide (at_ = meNm m) && (ap.endLine == cp.line) && okRecv o && (erR G N lv r sc).e o && (erR G N lv xs sc).es (e :: es) && decide (es.length < 20)
    | _ => false
  | .mu m i xs, sc => eF fun x => match x with
    | .Call (.Attribute (.Name x _) at_ ap) es [] cp => decide (at_ = muNm m) && (ap.endLine == cp.line) && slotB N sc i x && (erR G N lv xs sc).es es && decide (es.length < 20)
    | _ => false
  | .comp el tg it c own, sc => eF fun x => lv && match x with
    | .ListComp elt [⟨tge, ite, ifs, 0⟩] scope _ => blkC N sc scope own && (erR G N lv it sc).i ite && tgB N (relS scope sc) (celB scope) tg tge && tgIn (own.map (·.2)) tg && (erR G N lv c (relS scope sc)).c ifs && (erR G N lv el (relS scope sc)).e elt
    | _ => false
  | .rng1 a, sc => { eNo with i := fun x => match x with
      | .Call (.Name x _) [l] [] _ => decide (x = "range") && glB sc x && (erR G N lv a sc).e l
      | _ => false }
  | .rng2 a b, sc => { eNo with i := fun x => match x with
      | .Call (.Name x _) [l, r] [] _ => decide (x = "range") && glB sc x && (erR G N lv a sc).e l && (erR G N lv b sc).e r
      | _ => false }
  | .nop, _ => { eNo with
      o := fun x => match x with
        | none => true
        | _ => false
      c := fun x => match x with
        | [] => true
        | _ => false }
  | .nil, _ => { eNo with es := fun x => match x with
      | [] => true
      | _ => false }
  | .cons a xs, sc => { eNo with es := fun x => match x with
      | e :: es => (erR G N lv a sc).e e && (erR G N lv xs sc).es es
      | _ => false }
/-! ### what is known of the program -/
def blts : List Str := ["len", "int", "str", "abs", "sum", "min", "max", "sorted", "list", "tuple", "isinstance", "range", "bool", "dict"]
structure Facts (K : PySem.W.Frag) (mg : Str → Option Value) (G : Cfg) (fa xa : Nat → Addr) : Prop where
  glo : ∀ (g : Nat) (x : Str) (d : D), G.glos[g]? = some (x, d) → ∃ u v, mg x = some u ∧ RelV v u ∧ ∀ F, DR K fa F d v
  fn : ∀ (f : Nat) (fi : Fn), G.fns[f]? = some fi → mg fi.name = some (.ref (fa f)) ∧ fi.np ≤ fi.N.length
  free : ∀ x, x ∈ blts → mg x = none
  exc : ∀ (c : Nat) (x : Str), G.exs[c]? = some x → mg x = some (.ref (xa c)) ∧ PySem.W.excIn K (xa c) He.veBase "ValueError.__new__" = true ∧ PySem.W.keepIn K (.ref (xa c)) = true ∧
    PySem.W.subIn K (.ref (xa c)) (.type "BaseException") = some true ∧ PySem.W.typeIn K (.ref (xa c)) = some (.type "type")
  sub : ∀ (c h : Nat) (x y : Str), G.exs[c]? = some x → G.exs[h]? = some y → PySem.W.exmOne K (.ref (xa c)) (.ref (xa h)) = some (isHd G h c)
/-- the frame of a def called with sls -/
def frame (fi : Fn) (sls : List Sl) : Ev := sls ++ List.replicate (fi.N.length - sls.length) .no
def spFn (K : PySem.W.Frag) (fa xa : Nat → Addr) (fi : Fn) (call : Nat → List Sl → FR) (f : Nat) : Sp := fun vs H Q E => ∃ (F : Hp) (sls : List Sl) (IO : List Addr) (ios : List (Nat × Addr)),
  vs.length = fi.np ∧ sls.length = fi.np ∧ SR K fa ⟨F, H, IO, ios⟩ F (frame fi sls) (start fi.N vs) H ∧ (∀ p ∈ ios, ioAt fi.io p.1 = true) ∧
    match call f sls with
    | .st => False
    | .er c e' => ∀ F' σ' H', Le F F' → SR K fa ⟨F, H, IO, ios⟩ F' e' σ' H' → E (.ref (xa c)) none H'
    | .ok d fr e' => ∀ F' σ' H' v, Le F F' → SR K fa ⟨F, H, IO, ios⟩ F' e' σ' H' → FV K fa ⟨F, H, IO, ios⟩ F' e' σ' H' d fr v → Q v H'
def Calls (P : Program) (w : World) (K : PySem.W.Frag) (mg : Str → Option Value) (base : Heap) (G : Cfg) (fa xa : Nat → Addr) (call : Nat → List Sl → FR) (k : Nat) : Prop :=
  ∀ (f : Nat) (fi : Fn), G.fns[f]? = some fi → ∃ fd, FnOk P w K mg base (L2.CX P w) k (fa f) fd (fi.N.take fi.np) (spFn K fa xa fi call f) ∧ PySem.W.keepIn K (.ref (fa f)) = true ∧ Binds K fd (fi.N.take fi.np) []
structure GoodE (G : Cfg) (fa xa : Nat → Addr) (call : Nat → List Sl → FR) (k : Nat) (lv : Bool) (X : Cx) (sc : Scope) (W : WX) : Prop where
  scope : X.env.scope = sc
  nd : X.N.Nodup
  un : X.A.units + 65 < cLine
  calm : lv = true → X.calm = true
  room : lv = true → Room k X.A
  tk : Takes X W
  facts : Facts X.K X.mg G fa xa
  calls : Calls X.prog X.w X.K X.mg X.base G fa xa call k
/-! ### readings -/
section
variable (K : PySem.W.Frag) (fa xa : Nat → Addr) (W : WX)
def XP {α : Type} (B : Bs) (F : Hp) (σ : L2.St) (r : R α) (ok : α → Ev → Prop) : Prop := match r with
  | .ok a e => ok a e
  | .er c e => ∀ F' H', Le F F' → SR K fa B F' e σ H' → W (.ref (xa c)) none σ H'
  | .st => False
def rF (f : Ev → R (D × Bool)) : TE := fun σ H Q => ∃ B F e, SR K fa B F e σ H ∧ XP K fa xa W B F σ (f e) fun x e' => Fin K fa B F e' σ x.1 x.2 Q
def rT (f : Ev → R Bool) : TT := fun σ H Q => ∃ B F e, SR K fa B F e σ H ∧ XP K fa xa W B F σ (f e) fun k e' => ∀ F' H', Le F F' → SR K fa B F' e' σ H' → Q k H'
def BV (F : Hp) (σ : L2.St) : Bor → V → Prop
  | .dat d, v => DR K fa F d v
  | .slot i, v => σ[i]? = some (some v)
def BVs (F : Hp) (σ : L2.St) : List Bor → List V → Prop
  | [], vs => vs = []
  | b :: bs, vs => ∃ v r, vs = v :: r ∧ BV K fa F σ b v ∧ BVs F σ bs r
def rB (f : Ev → R Bor) : TE := fun σ H Q => ∃ B F e, SR K fa B F e σ H ∧ XP K fa xa W B F σ (f e) fun b e' => ∀ F' H' v, Le F F' → SR K fa B F' e' σ H' → BV K fa F' σ b v → Q v H'
def rBs (f : Ev → R (List Bor)) : TA := fun σ H Q => ∃ B F e, SR K fa B F e σ H ∧ XP K fa xa W B F σ (f e) fun bs e' => ∀ F' H' vs, Le F F' → SR K fa B F' e' σ H' → BVs K fa F' σ bs vs → Q vs H'
def rO (f : Ev → R (Option Int)) : TO := fun σ H Q => ∃ B F e, SR K fa B F e σ H ∧ XP K fa xa W B F σ (f e) fun o e' => ∀ F' H', Le F F' → SR K fa B F' e' σ H' → Q o H'
/-- what a loop walks: the data ds, from now on -/
def WalkD (J : It) (ds : List D) (F0 : Hp) : Prop := ∃ (Gp : Hp → Prop) (Y : Nat → Hp → V → Hp → Prop), L2.Walk J ds.length Gp Y ∧ (∀ H, Le F0 H → Gp H) ∧
  ∀ (i : Nat) (H : Hp) (x : V) (H' : Hp) (B : Bs) (F : Hp) (e : Ev) (σ : L2.St), i < ds.length → Le F0 F → SR K fa B F e σ H → Y i H x H' → ∃ F' d, ds[i]? = some d ∧ Le F F' ∧ SR K fa B F' e σ H' ∧ DR K fa F' d x
def rI (f : Ev → R (List D)) : TI := fun σ H R => ∃ B F e, SR K fa B F e σ H ∧ XP K fa xa W B F σ (f e) fun ds e' => ∀ F' H' J, Le F F' → SR K fa B F' e' σ H' → WalkD K fa J ds F' → R J H'
end
end EV
/-! Expressions come to what the evaluator says: the means. -/
namespace EV
open PySem L2
theorem PE.imp {X : Cx} {e : Expr} {t t' : TE} (h : PE X e t) (i : ∀ σ H Q, t' σ H Q → t σ H Q) : PE X e t' := ⟨fun pins s σ H Q I q => h.run pins s σ H Q I (i σ H Q q)⟩
theorem PT.imp {X : Cx} {e : Expr} {t t' : TT} (h : PT X e t) (i : ∀ σ H Q, t' σ H Q → t σ H Q) : PT X e t' := ⟨fun pins s σ H Q I q => h.run pins s σ H Q I (i σ H Q q)⟩
theorem PW.imp {X : Cx} {e : Expr} {t t' : TT} (h : PW X e t) (i : ∀ σ H Q, t' σ H Q → t σ H Q) : PW X e t' := ⟨fun wh pins s σ H Q I q => h.run wh pins s σ H Q I (i σ H Q q)⟩
theorem PA.imp {X : Cx} {e : List Expr} {t t' : TA} (h : PA X e t) (i : ∀ σ H Q, t' σ H Q → t σ H Q) : PA X e t' := ⟨fun pos pins s σ H Q I q => h.run pos pins s σ H Q I (i σ H Q q)⟩
theorem PO.imp {X : Cx} {e : Option Expr} {t t' : TO} (h : PO X e t) (i : ∀ σ H Q, t' σ H Q → t σ H Q) : PO X e t' := ⟨fun pins s σ H Q I q => h.run pins s σ H Q I (i σ H Q q)⟩
theorem PI.imp {X : Cx} {tg e : Expr} {t t' : TI} (h : PI X tg e t) (i : ∀ σ H Q, t' σ H Q → t σ H Q) : PI X tg e t' := ⟨fun pins s σ H Q I q => h.run pins s σ H Q I (i σ H Q q)⟩
theorem PI.or {X : Cx} {tg e : Expr} {t t' : TI} (h : PI X tg e t) (h' : PI X tg e t') : PI X tg e (fun σ H R => t σ H R ∨ t' σ H R) := ⟨fun pins s σ H Q I q => q.elim (h.run pins s σ H Q I) (h'.run pins s σ H Q I)⟩
theorem PTs.imp {X : Cx} {e : List Expr} {t t' : TT} (h : PTs X e t) (i : ∀ σ H Q, t' σ H Q → t σ H Q) : PTs X e t' := ⟨fun pins s σ H Q I q => h.run pins s σ H Q I (i σ H Q q)⟩
section
variable {K : PySem.W.Frag} {fa xa : Nat → Addr} {W : WX} {B : Bs} {F F' H H' : Hp} {e : Ev} {σ : L2.St}
theorem XP.imp {α : Type} {r : R α} {ok ok' : α → Ev → Prop} (h : XP K fa xa W B F σ r ok) (i : ∀ a e, r = .ok a e → ok a e → ok' a e) : XP K fa xa W B F σ r ok' := by
  cases r with
  | ok a e => exact i a e rfl h
  | er c e => exact h
  | st => exact h
theorem XP.run {α β : Type} {r : R β} {k : β → Ev → R α} {ok : α → Ev → Prop} (h : XP K fa xa W B F σ (r.bind k) ok) (l : Le F F') : XP K fa xa W B F' σ r fun b e' => XP K fa xa W B F σ (k b e') ok := by
  cases r with
  | ok a e => exact h
  | er c e => exact fun F1 H1 l1 r1 => h F1 H1 (l.trans l1) r1
  | st => exact h
theorem XP.of {α : Type} {o : Option α} {ok : α → Ev → Prop} (h : XP K fa xa W B F σ (R.of o e) ok) : ∃ a, o = some a ∧ ok a e := by
  cases o with
  | none => exact h.elim
  | some a => exact ⟨a, rfl, h⟩
theorem Fin.le {d : D} {fr : Bool} {Q : VK} (l : Le F F') (h : Fin K fa B F e σ d fr Q) : Fin K fa B F' e σ d fr Q := fun F1 H1 v l1 => h F1 H1 v (l.trans l1)
theorem BV.le {b : Bor} {v : V} (l : Le F F') (h : BV K fa F σ b v) : BV K fa F' σ b v := by
  cases b with
  | dat d => exact DR.le l d v h
  | slot i => exact h
theorem BVs.le (l : Le F F') : ∀ {bs : List Bor} {vs : List V}, BVs K fa F σ bs vs → BVs K fa F' σ bs vs
  | [], vs, h => h
  | b :: bs, vs, h => by
    simp only [BVs] at h ⊢
    obtain ⟨v, r, e1, h1, h2⟩ := h
    exact ⟨v, r, e1, BV.le l h1, BVs.le l h2⟩
/-- what is borrowed may be read -/
theorem BV.cr (r : SR K fa B F e σ H) {b : Bor} {v : V} {d : D} (h : BV K fa F σ b v) (q : b.res e = some d) : CR K fa F H d v := by
  cases b with
  | dat d' =>
    have e1 : d' = d := Option.some.inj q
    subst e1
    exact DR.cr r.sub h
  | slot i =>
    have q' : (e.getD i .no).get? = some d := q
    have h' : σ[i]? = some (some v) := h
    cases z : e.getD i .no with
    | no =>
      rw [z] at q'
      cases q'
    | sh d' =>
      rw [z] at q'
      cases q'
      obtain ⟨w, h1, v', h2, h3⟩ := r.at (getD_sh z)
      rw [h1] at h'
      cases h'
      cases h2
      exact DR.cr r.sub h3
    | ow d' =>
      rw [z] at q'
      cases q'
      obtain ⟨a, o, h1, h2, h3, _, _, hm⟩ := r.ow (getD_ow z)
      rw [h1] at h'
      cases h'
      exact OR.cr h2 h3 hm
theorem BVs.crs (r : SR K fa B F e σ H) : ∀ {bs : List Bor} {vs : List V} {ds : List D}, BVs K fa F σ bs vs → ress e bs = some ds → CRs K fa F H ds vs
  | [], vs, ds, h, q => by
    simp only [ress, Option.some.injEq] at q
    subst q
    simpa only [CRs, BVs] using h
  | b :: bs, vs, ds, h, q => by
    simp only [BVs] at h
    obtain ⟨v, rr, e1, h1, h2⟩ := h
    simp only [ress] at q
    cases z1 : b.res e with
    | none =>
      rw [z1] at q
      cases q
    | some d =>
      cases z2 : ress e bs with
      | none =>
        rw [z1, z2] at q
        cases q
      | some ds' =>
        rw [z1, z2] at q
        cases q
        simp only [CRs]
        exact ⟨v, rr, e1, BV.cr r h1 z1, BVs.crs r h2 z2⟩
/-- what is borrowed becomes data -/
theorem SR.frzB (r : SR K fa B F e σ H) {b : Bor} {v : V} {d : D} (h : BV K fa F σ b v) (q : b.res e = some d) : ∃ F', Le F F' ∧ SR K fa B F' (b.frz e) σ H ∧ DR K fa F' d v ∧ b.res (b.frz e) = some d := by
  cases b with
  | dat d' =>
    have e1 : d' = d := Option.some.inj q
    subst e1
    exact ⟨F, Le.refl F, r, h, rfl⟩
  | slot i =>
    have q' : (e.getD i .no).get? = some d := q
    have h' : σ[i]? = some (some v) := h
    have hl : i < e.length := by
      rw [r.len]
      exact (List.getElem?_eq_some_iff.mp h').1
    show ∃ F', Le F F' ∧ SR K fa B F' (e.set i (e.getD i .no).frz) σ H ∧ DR K fa F' d v ∧ ((e.set i (e.getD i .no).frz).getD i .no).get? = some d
    cases z : e.getD i .no with
    | no =>
      rw [z] at q'
      cases q'
    | sh d' =>
      rw [z] at q'
      cases q'
      obtain ⟨w, h1, v', h2, h3⟩ := r.at (getD_sh z)
      rw [h1] at h'
      cases h'
      cases h2
      refine ⟨F, Le.refl F, r.put h1 h3, h3, ?_⟩
      rw [List.getD_eq_getElem?_getD, List.getElem?_set_self hl] <;> rfl
    | ow d' =>
      rw [z] at q'
      cases q'
      obtain ⟨F', v', l, r', h1, h2⟩ := r.frzSlot (getD_ow z)
      rw [h1] at h'
      cases h'
      refine ⟨F', l, r', h2, ?_⟩
      rw [List.getD_eq_getElem?_getD, List.getElem?_set_self hl] <;> rfl
/-- freezing one does not change what another one tells -/
theorem res_frz (b b' : Bor) (e : Ev) : b'.res (b.frz e) = b'.res e := by
  cases b with
  | dat d => rfl
  | slot i =>
    cases b' with
    | dat d => rfl
    | slot j =>
      show ((e.set i (e.getD i .no).frz).getD j .no).get? = (e.getD j .no).get?
      by_cases hj : i = j
      · subst hj
        by_cases hl : i < e.length
        · rw [List.getD_eq_getElem?_getD, List.getElem?_set_self hl]
          show (e.getD i .no).frz.get? = _
          cases e.getD i .no <;> rfl
        · rw [List.set_eq_of_length_le (by omega)]
      · simp only [List.getD_eq_getElem?_getD, List.getElem?_set_ne hj]
theorem ress_frz (b : Bor) (e : Ev) : ∀ bs : List Bor, ress (b.frz e) bs = ress e bs
  | [] => rfl
  | c :: bs => by simp only [ress, res_frz, ress_frz b e bs]
theorem SR.frzBs : ∀ {bs : List Bor} {F : Hp} {e : Ev} {vs : List V} {ds : List D}, SR K fa B F e σ H → BVs K fa F σ bs vs → ress e bs = some ds → ∃ F', Le F F' ∧ SR K fa B F' (frzs e bs) σ H ∧ DRs K fa F' ds vs
  | [], F, e, vs, ds, r, h, q => by
    simp only [ress, Option.some.injEq] at q
    simp only [BVs] at h
    subst q h
    exact ⟨F, Le.refl F, r, DRs.nil⟩
  | b :: bs, F, e, vs, ds, r, h, q => by
    simp only [BVs] at h
    obtain ⟨v, rr, e1, h1, h2⟩ := h
    simp only [ress] at q
    cases z1 : b.res e with
    | none =>
      rw [z1] at q
      cases q
    | some d =>
      cases z2 : ress e bs with
      | none =>
        rw [z1, z2] at q
        cases q
      | some ds' =>
        rw [z1, z2] at q
        cases q
        obtain ⟨F1, l1, r1, d1, _⟩ := r.frzB h1 z1
        obtain ⟨F2, l2, r2, d2⟩ := SR.frzBs (ds := ds') r1 (BVs.le l1 h2) (by rw [ress_frz]; exact z2)
        subst e1
        exact ⟨F2, l1.trans l2, r2, DRs.cons (DR.le l2 _ _ d1) d2⟩
end
/-! ### what an expression's evaluator is right of -/
structure Snd (G : Cfg) (fa xa : Nat → Addr) (call : Nat → List Sl → FR) (X : Cx) (W : WX) (A : EvR) (C : ErR) : Prop where
  e : ∀ x, C.e x = true → PE X x (rF X.K fa xa W A.f)
  t : ∀ x, C.e x = true → PT X x (rT X.K fa xa W A.t)
  w : ∀ op vs p, C.e (.BoolOp op vs p) = true → PW X (.BoolOp op vs p) (rT X.K fa xa W A.t)
  b : ∀ x, C.e x = true → PE X x (rB X.K fa xa W A.b)
  ok : ∀ x, C.e x = true → okE x = true
  es : ∀ xs, C.es xs = true → PA X xs (rBs X.K fa xa W A.bs)
  i : ∀ tg x, C.i x = true → PI X tg x (rI X.K fa xa W A.i) ∧ okE x = true
  o : ∀ x, C.o x = true → PO X x (rO X.K fa xa W A.o)
  c : ∀ xs, C.c xs = true → PTs X xs (rT X.K fa xa W A.t)
section
variable {G : Cfg} {fa xa : Nat → Addr} {call : Nat → List Sl → FR} {X : Cx} {W : WX}
theorem starE {x : Expr} {xs : List Expr} {env : Env} (h : okE x = true) : starEach (x :: xs) env = (false, eval x env) :: starEach xs env := by
  cases x <;> first
    | rfl
    | cases h
theorem plainIx_of {x : Expr} (h : okE x = true) : PlainIx x := fun o i => by
  cases x <;> first
    | rfl
    | cases h
theorem nomark_of {x : Expr} {op : CmpOp} (h : okE x = true) : behindInMarks op x = false := by
  cases x <;> first
    | rfl
    | cases h
theorem folded_of {x : Expr} {env : Env} (h : okE x = true) (v : Value) : foldedSetIterable x env v = pure v := by
  cases x <;> first
    | rfl
    | cases h
theorem plainT_of {x : Expr} {env : Env} (h : plainT x = true) (wh : Sem Value) : isTrue x env wh = (do let v ← wh; standAt x.pos; holding [v] (truthy v)) := by
  cases x <;> first
    | rfl
    | cases h
    | (rename_i op a p; cases op <;> first | rfl | cases h)
theorem base_of {x : Expr} {env : Env} {at_ : Str} (h : okRecv x = true) : attributeBase x at_ env (eval x env) = eval x env := by
  cases x <;> try rfl
  rename_i f as ks p
  cases as with
  | nil => cases h
  | cons a as => cases f <;> rfl
theorem items_walk {K : PySem.W.Frag} {F : Hp} {d : D} {ds : List D} {v : V} (h : itemsD d = some ds) (q : DR K fa F d v) : ∃ J, WalkD K fa J ds F ∧
    ((∃ a, v = .ref a ∧ J = Itl K a ∧ ∃ xs, ∀ H, Le F H → SqL K H a xs) ∨ (∃ a, v = .ref a ∧ J = Itt K a ∧ ∃ xs, ∀ H, Le F H → SqT K H a xs) ∨ ∃ x, v = .str x ∧ J = Its x) := by
  cases d <;> simp only [itemsD] at h <;> try (cases h)
  case str s =>
    simp only [DR] at q
    subst q
    refine ⟨Its ⟨s.toArray⟩, ⟨fun _ => True, _, by rw [List.length_map]; exact walk_str, fun _ _ => True.intro, fun i H x H' B F1 e σ hi l r y => ?_⟩, .inr (.inr ⟨_, rfl, rfl⟩)⟩
    obtain ⟨e1, c, hc, e2⟩ := y
    subst e1 e2
    have hc' : s[i]? = some c := by simpa using hc
    refine ⟨F1, .str [c], ?_, Le.refl F1, r, by simp only [DR]⟩
    rw [List.getElem?_map, hc'] <;> rfl
  case lst =>
    simp only [DR] at q
    obtain ⟨a, vs, e1, h1, h2⟩ := q
    subst e1
    refine ⟨Itl K a, ⟨_, _, by rw [DRs.length h2]; exact walk_list (xs := vs), fun H l => SqL.of (l _ _ h1), fun i H x H' B F1 e σ hi l r y => ?_⟩, .inl ⟨a, rfl, rfl, vs, fun H l => SqL.of (l _ _ h1)⟩⟩
    obtain ⟨e1, hx⟩ := y
    subst e1
    obtain ⟨d, g1, g2⟩ := DRs.getV h2 hx
    exact ⟨F1, d, g1, Le.refl F1, r, DR.le l _ _ g2⟩
  case tup =>
    simp only [DR] at q
    obtain ⟨a, vs, e1, h1, h2⟩ := q
    subst e1
    refine ⟨Itt K a, ⟨_, _, by rw [DRs.length h2]; exact walk_tup (xs := vs), fun H l => SqT.le l h1, fun i H x H' B F1 e σ hi l r y => ?_⟩, .inr (.inl ⟨a, rfl, rfl, vs, fun H l => SqT.le l h1⟩)⟩
    obtain ⟨e1, hx⟩ := y
    subst e1
    obtain ⟨d, g1, g2⟩ := DRs.getV h2 hx
    exact ⟨F1, d, g1, Le.refl F1, r, DR.le l _ _ g2⟩
  case scr ns =>
    simp only [DR] at q
    obtain ⟨a, e1, h1⟩ := q
    subst e1
    refine ⟨Itl K a, ⟨_, _, by rw [List.length_map, ← List.length_map (f := V.int)]; exact walk_list (xs := ns.map V.int), fun H l => SqL.le l h1, fun i H x H' B F1 e σ hi l r y => ?_⟩, .inl ⟨a, rfl, rfl, _, fun H l => SqL.le l h1⟩⟩
    obtain ⟨e1, hx⟩ := y
    subst e1
    obtain ⟨d, g1, g2⟩ := DRs.getV (DRs.ofInts (K := K) (fa := fa) (F := F1) ns) hx
    exact ⟨F1, d, g1, Le.refl F1, r, g2⟩
/-- from the value, the test and what is borrowed -/
theorem Snd.ofETB {f : Ev → R (D × Bool)} {t : Ev → R Bool} {b : Ev → R Bor} {g : Expr → Bool} (h : ∀ x, okE x = true → g x = true → PE X x (rF X.K fa xa W f)) (ht : ∀ x, okE x = true → g x = true → PT X x (rT X.K fa xa W t))
    (hw : ∀ op vs p, g (.BoolOp op vs p) = true → PW X (.BoolOp op vs p) (rT X.K fa xa W t)) (hb : ∀ x, okE x = true → g x = true → PE X x (rB X.K fa xa W b)) : Snd G fa xa call X W { ofF f with t := t, b := b } (eF g) := by
  have ba : ∀ {x : Expr}, (okE x && g x) = true → okE x = true ∧ g x = true := fun h => Bool.and_eq_true_iff.mp h
  refine ⟨fun x hx => h x (ba hx).1 (ba hx).2, fun x hx => ht x (ba hx).1 (ba hx).2, fun op vs p hx => hw op vs p (ba (x := .BoolOp op vs p) hx).2, fun x hx => hb x (ba hx).1 (ba hx).2, fun x hx => (ba hx).1, fun xs hx => (nomatch hx), fun tg x hx => ⟨?_, (ba hx).1⟩, fun x hx => ?_, fun xs hx => ?_⟩
  · have hx' := h x (ba hx).1 (ba hx).2
    refine PI.imp (PI.or (pi_list hx') (PI.or (pi_tup hx') (pi_str hx'))) fun σ H RR ⟨B, F, e, r, q⟩ => ?_
    cases hf : f e with
    | st =>
      have q' : XP X.K fa xa W B F σ (((ofF f).i) e) _ := q
      simp only [ofF, hf, R.bind] at q'
      exact q'.elim
    | er c e1 =>
      have q' : XP X.K fa xa W B F σ (((ofF f).i) e) _ := q
      simp only [ofF, hf, R.bind] at q'
      refine .inl ⟨B, F, e, r, ?_⟩
      rw [hf]
      exact q'
    | ok y e1 =>
      have q' : XP X.K fa xa W B F σ (((ofF f).i) e) _ := q
      simp only [ofF, hf, R.bind] at q'
      obtain ⟨ds, hds, q2⟩ := q'.of
      have step : ∀ {P : V → Hp → Prop}, (∀ F1 H1 v, Le F F1 → SR X.K fa B F1 e1 σ H1 → DR X.K fa F1 y.1 v → P v H1) → rF X.K fa xa W f σ H P := fun {P} hP => by
        refine ⟨B, F, e, r, ?_⟩
        rw [hf]
        intro F1 H1 v l1 r1 fv
        obtain ⟨F2, l2, r2, d2⟩ := r1.freeze fv
        exact hP F2 H1 v (l1.trans l2) r2 d2
      cases hy : y.1 with
      | str s =>
        refine .inr (.inr (step fun F1 H1 v l1 r1 d1 => ?_))
        rw [hy] at hds d1
        obtain ⟨J, wd, wh⟩ := items_walk hds d1
        rcases wh with ⟨a, e1, _⟩ | ⟨a, e1, _⟩ | ⟨x, e1, eJ⟩
        · simp only [DR] at d1
          rw [d1] at e1
          cases e1
        · simp only [DR] at d1
          rw [d1] at e1
          cases e1
        · subst eJ
          exact ⟨x, e1, q2 F1 H1 _ l1 r1 wd⟩
      | lst ys =>
        refine .inl (step fun F1 H1 v l1 r1 d1 => ?_)
        rw [hy] at hds d1
        simp only [DR] at d1
        have d1' := d1
        obtain ⟨a, vs, ev, h1, h2⟩ := d1
        refine ⟨a, ev, ⟨vs, SqL.of (r1.sub _ _ h1)⟩, q2 F1 H1 _ l1 r1 ?_⟩
        have e3 : ds = ys := (Option.some.inj hds).symm
        subst e3
        refine ⟨_, _, by rw [DRs.length h2]; exact walk_list (xs := vs), fun H l => SqL.of (l _ _ h1), fun i H x H' B F1 e σ hi l r y => ?_⟩
        obtain ⟨e1, hx⟩ := y
        subst e1
        obtain ⟨d, g1, g2⟩ := DRs.getV h2 hx
        exact ⟨F1, d, g1, Le.refl F1, r, DR.le l _ _ g2⟩
      | scr ns =>
        refine .inl (step fun F1 H1 v l1 r1 d1 => ?_)
        rw [hy] at hds d1
        simp only [DR] at d1
        obtain ⟨a, ev, h1⟩ := d1
        refine ⟨a, ev, ⟨_, SqL.le r1.sub h1⟩, q2 F1 H1 _ l1 r1 ?_⟩
        have e3 : ds = ns.map .int := (Option.some.inj hds).symm
        subst e3
        refine ⟨_, _, by rw [List.length_map, ← List.length_map (f := V.int)]; exact walk_list (xs := ns.map V.int), fun H l => SqL.le l h1, fun i H x H' B F1 e σ hi l r y => ?_⟩
        obtain ⟨e1, hx⟩ := y
        subst e1
        obtain ⟨d, g1, g2⟩ := DRs.getV (DRs.ofInts (K := X.K) (fa := fa) (F := F1) ns) hx
        exact ⟨F1, d, g1, Le.refl F1, r, g2⟩
      | tup ys =>
        refine .inr (.inl (step fun F1 H1 v l1 r1 d1 => ?_))
        rw [hy] at hds d1
        simp only [DR] at d1
        obtain ⟨a, vs, ev, h1, h2⟩ := d1
        refine ⟨a, ev, ⟨vs, SqT.le r1.sub h1⟩, q2 F1 H1 _ l1 r1 ?_⟩
        have e3 : ds = ys := (Option.some.inj hds).symm
        subst e3
        refine ⟨_, _, by rw [DRs.length h2]; exact walk_tup (xs := vs), fun H l => SqT.le l h1, fun i H x H' B F1 e σ hi l r y => ?_⟩
        obtain ⟨e1, hx⟩ := y
        subst e1
        obtain ⟨d, g1, g2⟩ := DRs.getV h2 hx
        exact ⟨F1, d, g1, Le.refl F1, r, DR.le l _ _ g2⟩
      | _ =>
        rw [hy] at hds
        cases hds
  · cases x with
    | none => cases hx
    | some x =>
      have hx' : (okE x && g x) = true := hx
      refine PO.imp (po_some (h x (ba hx').1 (ba hx').2)) fun σ H Q ⟨B, F, e, r, q⟩ => ⟨B, F, e, r, (q.run (Le.refl F)).imp fun y e1 hye q1 F1 H1 v l1 r1 fv => ?_⟩
      obtain ⟨d, fr⟩ := y
      cases d <;> try (exact q1.elim)
      rename_i i
      obtain ⟨F2, l2, r2, d2⟩ := r1.freeze fv
      simp only [DR] at d2
      exact ⟨i, d2, q1 F2 H1 (l1.trans l2) r2⟩
  · match xs, hx with
    | [x], hx => exact pts_one (ht x (ba hx).1 (ba hx).2)
theorem freezeB {f : Ev → R (D × Bool)} {x : Expr} (h : PE X x (rF X.K fa xa W f)) : PE X x (rB X.K fa xa W (ofF f).b) :=
  PE.imp h fun σ H Q ⟨B, F, e, r, q⟩ => ⟨B, F, e, r, (q.run (Le.refl F)).imp fun y e1 _ q1 F1 H1 v l1 r1 fv => by
    obtain ⟨F2, l2, r2, d2⟩ := r1.freeze fv
    exact q1 F2 H1 v (l1.trans l2) r2 d2⟩
theorem truthT {f : Ev → R (D × Bool)} {x : Expr} (h : PE X x (rF X.K fa xa W f)) (hp : plainT x = true) : PT X x (rT X.K fa xa W (ofF f).t) :=
  PT.imp (pt_truth h (plainT_of hp)) fun σ H Q ⟨B, F, e, r, q⟩ => ⟨B, F, e, r, (q.run (Le.refl F)).imp fun y e1 _ q1 F1 H1 v l1 r1 fv => by
    obtain ⟨k, hk, q2⟩ := q1.of
    obtain ⟨F2, l2, r2, d2⟩ := r1.freeze fv
    exact ⟨k, tru_of r2.sub hk (DR.cr r2.sub d2), q2 F2 H1 (l1.trans l2) r2⟩⟩
/-- where the value alone is told -/
theorem Snd.ofPE {f : Ev → R (D × Bool)} {g : Expr → Bool} (h : ∀ x, okE x = true → g x = true → PE X x (rF X.K fa xa W f)) (hp : ∀ x, okE x = true → g x = true → plainT x = true) : Snd G fa xa call X W (ofF f) (eF g) :=
  Snd.ofETB (t := (ofF f).t) (b := (ofF f).b) h (fun x h1 h2 => truthT (h x h1 h2) (hp x h1 h2)) (fun op vs p hx => by have z := hp _ rfl hx; cases z) fun x h1 h2 => freezeB (h x h1 h2)
/-- where a test is its own -/
theorem Snd.ofET {f : Ev → R (D × Bool)} {t : Ev → R Bool} {g : Expr → Bool} (h : ∀ x, okE x = true → g x = true → PE X x (rF X.K fa xa W f)) (ht : ∀ x, okE x = true → g x = true → PT X x (rT X.K fa xa W t))
    (hw : ∀ op vs p, g (.BoolOp op vs p) = true → PW X (.BoolOp op vs p) (rT X.K fa xa W t)) : Snd G fa xa call X W { ofF f with t := t } (eF g) :=
  Snd.ofETB (b := (ofF f).b) h ht hw fun x h1 h2 => freezeB (h x h1 h2)
theorem Snd.no : Snd G fa xa call X W noR eNo := ⟨fun _ h => (nomatch h), fun _ h => (nomatch h), fun _ _ _ h => (nomatch h), fun _ h => (nomatch h), fun _ h => (nomatch h), fun _ h => (nomatch h), fun _ _ h => (nomatch h), fun _ h => (nomatch h), fun _ h => (nomatch h)⟩
end
end EV
/-! Calls of the program's own defs. -/
namespace EV
open PySem L2
section
variable {K : PySem.W.Frag} {fa xa : Nat → Addr} {W : WX} {B : Bs} {F F' H H' : Hp} {e : Ev} {σ : L2.St}
/-- what may be given to slot i, which holds it -/
theorem SR.give (r : SR K fa B F e σ H) {i : Nat} {s : Sl} {v : V} (hv : σ[i]? = some (some v)) (h : SlR K fa F H s (some v)) (ho : ∀ d a, s = .ow d → v = .ref a → (B.H a = none ∨ a ∈ B.IO) ∧ a ∉ owns e σ) : SR K fa B F (e.set i s) σ H := by
  have es : σ.set i (some v) = σ := by
    obtain ⟨h1, h2⟩ := List.getElem?_eq_some_iff.mp hv
    rw [← h2]
    exact List.set_getElem_self h1
  have z := r.asgG (i := i) (s := s) (v := v) (fun p hp => by rw [es]; exact r.ios p hp) h fun d hd => by
    subst hd
    obtain ⟨_, a, o, h1, _⟩ := h
    have ea : v = .ref a := Option.some.inj h1
    obtain ⟨g1, g2⟩ := ho d a rfl ea
    exact ⟨a, ea, g1, fun j d' q1 q2 => g2 (mem_owns.mpr ⟨j, d', q1, q2⟩)⟩
  rw [es] at z
  exact z
theorem owns_set_no {i : Nat} {a : Addr} (h : a ∈ owns (e.set i .no) σ) : a ∈ owns e σ ∧ σ[i]? ≠ some (some (.ref a)) ∨ a ∈ owns e σ ∧ ∃ j, j ≠ i ∧ ∃ d, e[j]? = some (.ow d) ∧ σ[j]? = some (some (.ref a)) := by
  obtain ⟨j, d, q1, q2⟩ := mem_owns.mp h
  by_cases hj : i = j
  · subst hj
    by_cases hl : i < e.length
    · rw [List.getElem?_set_self hl] at q1
      cases q1
    · rw [List.getElem?_eq_none (by simpa using hl)] at q1
      cases q1
  · rw [List.getElem?_set_ne hj] at q1
    exact .inr ⟨mem_owns.mpr ⟨j, d, q1, q2⟩, j, fun z => hj z.symm, d, q1, q2⟩
theorem owns_drop {i : Nat} {a : Addr} (h : a ∈ owns (e.set i .no) σ) : a ∈ owns e σ := (owns_set_no h).elim And.left And.left
theorem owns_frz {i : Nat} {a : Addr} (h : a ∈ owns (e.set i (e.getD i .no).frz) σ) : a ∈ owns e σ := by
  obtain ⟨j, d, q1, q2⟩ := mem_owns.mp h
  by_cases hj : i = j
  · subst hj
    by_cases hl : i < e.length
    · rw [List.getElem?_set_self hl] at q1
      cases z : e.getD i .no <;> rw [z] at q1 <;> cases q1
    · rw [List.getElem?_eq_none (by simpa using hl)] at q1
      cases q1
  · rw [List.getElem?_set_ne hj] at q1
    exact mem_owns.mpr ⟨j, d, q1, q2⟩
theorem owns_frzB {b : Bor} {a : Addr} (h : a ∈ owns (b.frz e) σ) : a ∈ owns e σ := by
  cases b with
  | dat d => exact h
  | slot i => exact owns_frz h
/-- what freezing a slot adds -/
theorem SR.frzB' (r : SR K fa B F e σ H) {b : Bor} {v : V} {d : D} (h : BV K fa F σ b v) (q : b.res e = some d) :
    ∃ F', Le F F' ∧ SR K fa B F' (b.frz e) σ H ∧ DR K fa F' d v ∧ ∀ a o, F' a = some o → F a = none → a ∈ owns e σ ∧ a ∉ owns (b.frz e) σ := by
  obtain ⟨F', l, r', dr, _⟩ := r.frzB h q
  cases b with
  | dat d' =>
    have e1 : d' = d := Option.some.inj q
    subst e1
    exact ⟨F, Le.refl F, r, h, fun a o h1 h2 => by rw [h2] at h1; cases h1⟩
  | slot i =>
    have q' : (e.getD i .no).get? = some d := q
    have h' : σ[i]? = some (some v) := h
    cases z : e.getD i .no with
    | no =>
      rw [z] at q'
      cases q'
    | sh d' =>
      rw [z] at q'
      cases q'
      obtain ⟨w, h1, v', h2, h3⟩ := r.at (getD_sh z)
      rw [h1] at h'
      cases h'
      cases h2
      have r2 := r.put h1 h3
      refine ⟨F, Le.refl F, ?_, h3, fun a o g1 g2 => by rw [g2] at g1; cases g1⟩
      show SR K fa B F (e.set i (e.getD i .no).frz) σ H
      rw [z]
      exact r2
    | ow d' =>
      rw [z] at q'
      cases q'
      have ho := getD_ow z
      obtain ⟨a, o, h1, h2, h3, h4, h5, hm⟩ := r.ow ho
      have hl : i < e.length := (List.getElem?_eq_some_iff.mp ho).1
      rw [h1] at h'
      cases h'
      have no : ∀ (j : Nat) (d2 : D), (e.set i .no)[j]? = some (.ow d2) → σ[j]? ≠ some (some (.ref a)) := fun j d2 q1 q2 => by
        by_cases hj : i = j
        · subst hj
          rw [List.getElem?_set_self hl] at q1
          cases q1
        · rw [List.getElem?_set_ne hj] at q1
          exact hj (r.inj i j _ d2 a ho q1 h1 q2)
      have r1 := (r.drop i).more h2 h4 h5 no
      have dr' : DR K fa (upd F a o) _ (.ref a) := OR.dr upd_same (h3.le (Le.upd h4))
      have r2 := r1.put h1 dr'
      rw [List.set_set] at r2
      refine ⟨upd F a o, Le.upd h4, ?_, dr', fun b u g1 g2 => ?_⟩
      · show SR K fa B (upd F a o) (e.set i (e.getD i .no).frz) σ H
        rw [z]
        exact r2
      · have eb : b = a := by
          by_cases hb : b = a
          · exact hb
          · rw [upd_ne hb, g2] at g1
            cases g1
        subst eb
        refine ⟨mem_owns.mpr ⟨i, _, ho, h1⟩, fun hm => ?_⟩
        obtain ⟨j, d2, q1, q2⟩ := mem_owns.mp hm
        have q1' : (e.set i (e.getD i .no).frz)[j]? = some (.ow d2) := q1
        rw [z] at q1'
        by_cases hj : i = j
        · subst hj
          rw [List.getElem?_set_self hl] at q1'
          cases q1'
        · rw [List.getElem?_set_ne hj] at q1'
          exact hj (r.inj i j _ d2 b ho q1' h1 q2)
/-- the arguments as they are handed on -/
structure Args (K : PySem.W.Frag) (fa : Nat → Addr) (F H : Hp) (e ec : Ev) (σ : L2.St) (io : List Bool) (sls : List Sl) (vs : List V) : Prop where
  len : sls.length = vs.length
  sl : ∀ (j : Nat) (s : Sl) (v : V), sls[j]? = some s → vs[j]? = some v → SlR K fa F H s (some v)
  own : ∀ (j : Nat) (d : D) (a : Addr), sls[j]? = some (.ow d) → vs[j]? = some (.ref a) → a ∈ owns e σ ∧ a ∉ owns ec σ ∧ ioAt io j = true
  inj : ∀ (j k : Nat) (d d' : D) (a : Addr), sls[j]? = some (.ow d) → sls[k]? = some (.ow d') → vs[j]? = some (.ref a) → vs[k]? = some (.ref a) → j = k
  sub : ∀ a, a ∈ owns ec σ → a ∈ owns e σ
theorem Args.cons {e0 ec : Ev} {io : List Bool} {sls : List Sl} {vs : List V} {s : Sl} {v : V} {b : Bool} (h : Args K fa F H e ec σ io sls vs) (hs : SlR K fa F H s (some v))
    (sub : ∀ a, a ∈ owns e σ → a ∈ owns e0 σ) (ho : ∀ d a, s = .ow d → v = .ref a → a ∈ owns e0 σ ∧ a ∉ owns e σ ∧ b = true) : Args K fa F H e0 ec σ (b :: io) (s :: sls) (v :: vs) where
  len := by simp [h.len]
  sl := fun j s' v' q1 q2 => by
    cases j with
    | zero =>
      cases q1
      cases q2
      exact hs
    | succ j => exact h.sl j s' v' q1 q2
  own := fun j d a q1 q2 => by
    cases j with
    | zero =>
      have e1 : s = .ow d := Option.some.inj q1
      have e2 : v = .ref a := Option.some.inj q2
      obtain ⟨g1, g2, g3⟩ := ho d a e1 e2
      exact ⟨g1, fun z => g2 (h.sub a z), by subst g3; rfl⟩
    | succ j =>
      obtain ⟨g1, g2, g3⟩ := h.own j d a q1 q2
      exact ⟨sub a g1, g2, g3⟩
  inj := fun j k d d' a q1 q2 q3 q4 => by
    cases j with
    | zero =>
      cases k with
      | zero => rfl
      | succ k =>
        have e1 : s = .ow d := Option.some.inj q1
        have e2 : v = .ref a := Option.some.inj q3
        exact absurd (h.own k d' a q2 q4).1 (ho d a e1 e2).2.1
    | succ j =>
      cases k with
      | zero =>
        have e1 : s = .ow d' := Option.some.inj q2
        have e2 : v = .ref a := Option.some.inj q4
        exact absurd (h.own j d a q1 q3).1 (ho d' a e1 e2).2.1
      | succ k => exact congrArg (· + 1) (h.inj j k d d' a q1 q2 q3 q4)
  sub := fun a z => sub a (h.sub a z)
theorem ioAt_nil (j : Nat) : ioAt [] j = false := by
  unfold ioAt
  rw [List.getD_eq_getElem?_getD]
  simp
theorem mk_ok : ∀ {bs : List Bor} {io : List Bool} {F : Hp} {e ec : Ev} {vs : List V} {sls : List Sl}, SR K fa B F e σ H → BVs K fa F σ bs vs → mkArgs e io bs = some (sls, ec) →
    ∃ Fc, Le F Fc ∧ SR K fa B Fc ec σ H ∧ Args K fa Fc H e ec σ io sls vs ∧ ∀ a o, Fc a = some o → F a = none → a ∈ owns e σ
  | [], io, F, e, ec, vs, sls, r, h, q => by
    simp only [mkArgs, Option.some.injEq, Prod.mk.injEq] at q
    obtain ⟨q1, q2⟩ := q
    simp only [BVs] at h
    subst q1 q2 h
    exact ⟨F, Le.refl F, r, ⟨rfl, fun j s v z => by simp at z, fun j d a z => by simp at z, fun j k d d' a z => by simp at z, fun a z => z⟩, fun a o h1 h2 => by rw [h2] at h1; cases h1⟩
  | b :: bs, io, F, e, ec, vs, sls, r, h, q => by
    simp only [BVs] at h
    obtain ⟨v, rr, e1, h1, h2⟩ := h
    subst e1
    -- the argument is frozen
    have frz : ∀ {io' : List Bool} {io0 : List Bool} {d : D}, (∀ j, ioAt io0 j = true → True) → b.res e = some d → ∀ {z : List Sl × Ev}, mkArgs (b.frz e) io' bs = some z → sls = .sh d :: z.1 → ec = z.2 →
        ∃ Fc, Le F Fc ∧ SR K fa B Fc ec σ H ∧ Args K fa Fc H e ec σ (false :: io') sls (v :: rr) ∧ ∀ a o, Fc a = some o → F a = none → a ∈ owns e σ := fun {io' io0 d} _ hd {z} hz es ee => by
      subst es ee
      obtain ⟨F1, l1, r1, d1, new1⟩ := r.frzB' h1 hd
      obtain ⟨Fc, l2, r2, A, new2⟩ := mk_ok (bs := bs) r1 (BVs.le l1 h2) hz
      refine ⟨Fc, l1.trans l2, r2, A.cons (b := false) ⟨v, rfl, DR.le l2 _ _ d1⟩ (fun a z => owns_frzB z) (fun d a z => nomatch z), fun a o g1 g2 => ?_⟩
      cases g3 : F1 a with
      | some o' => exact (new1 a o' g3 g2).1
      | none => exact owns_frzB (new2 a o g1 g3)
    match io, q with
    | true :: io, q =>
      cases b with
      | dat d => simp [mkArgs] at q
      | slot i =>
        simp only [mkArgs] at q
        split at q
        · rename_i d hd
          cases hz : mkArgs (e.set i .no) io bs with
          | none =>
            rw [hz] at q
            cases q
          | some z =>
            rw [hz] at q
            cases q
            have ho := getD_ow hd
            obtain ⟨a, o, g1, g2, g3, g4, g5, hm⟩ := r.ow ho
            have hl : i < e.length := (List.getElem?_eq_some_iff.mp ho).1
            have hv : σ[i]? = some (some v) := h1
            have ev : v = .ref a := by
              rw [g1] at hv
              exact (Option.some.inj (Option.some.inj hv)).symm
            subst ev
            have na : a ∉ owns (e.set i .no) σ := fun hm => by
              obtain ⟨j, d2, q1, q2⟩ := mem_owns.mp hm
              by_cases hj : i = j
              · subst hj
                rw [List.getElem?_set_self hl] at q1
                cases q1
              · rw [List.getElem?_set_ne hj] at q1
                exact hj (r.inj i j d d2 a ho q1 g1 q2)
            obtain ⟨Fc, l2, r2, A, new2⟩ := mk_ok (bs := bs) (r.drop i) h2 hz
            have fc : Fc a = none := by
              cases y : Fc a with
              | none => rfl
              | some o' => exact absurd (new2 a o' y g4) na
            refine ⟨Fc, l2, r2, A.cons (b := true) ⟨hm, a, o, rfl, g2, OR.le l2 g3, fc⟩ (fun b z => owns_drop z) (fun d' b z1 z2 => ?_), fun b o g1 g2 => owns_drop (new2 b o g1 g2)⟩
            cases z2
            exact ⟨mem_owns.mpr ⟨i, d, ho, g1⟩, na, rfl⟩
        · cases q
    | false :: io, q =>
      simp only [mkArgs] at q
      split at q
      · rename_i d hd
        cases hz : mkArgs (b.frz e) io bs with
        | none =>
          rw [hz] at q
          cases q
        | some z =>
          rw [hz] at q
          cases q
          exact frz (io0 := []) (fun _ _ => True.intro) hd hz rfl rfl
      · cases q
    | [], q =>
      simp only [mkArgs] at q
      split at q
      · rename_i d hd
        cases hz : mkArgs (b.frz e) [] bs with
        | none =>
          rw [hz] at q
          cases q
        | some z =>
          rw [hz] at q
          cases q
          obtain ⟨Fc, l, r2, A, new⟩ := frz (io0 := []) (fun _ _ => True.intro) hd hz rfl rfl
          refine ⟨Fc, l, r2, ⟨A.len, A.sl, fun j d a q1 q2 => ?_, A.inj, A.sub⟩, new⟩
          obtain ⟨g1, g2, g3⟩ := A.own j d a q1 q2
          refine ⟨g1, g2, ?_⟩
          cases j with
          | zero => cases g3
          | succ j =>
            have g4 : ioAt [] j = true := g3
            rw [ioAt_nil] at g4
            cases g4
      · cases q
/-- the slots that are handed on, as the callee sees them -/
def iosOf (sls : List Sl) (vs : List V) : List (Nat × Addr) := (List.range sls.length).filterMap fun (j : Nat) => match sls[j]?, vs[j]? with
  | some (Sl.ow _), some (V.ref a) => some (j, a)
  | _, _ => none
theorem mem_iosOf {sls : List Sl} {vs : List V} {p : Nat × Addr} : p ∈ iosOf sls vs ↔ ∃ d, sls[p.1]? = some (.ow d) ∧ vs[p.1]? = some (.ref p.2) := by
  unfold iosOf
  rw [List.mem_filterMap]
  constructor
  · rintro ⟨j, _, h⟩
    split at h
    · rename_i d a q1 q2
      cases h
      exact ⟨d, q1, q2⟩
    · cases h
  · rintro ⟨d, q1, q2⟩
    refine ⟨p.1, List.mem_range.mpr (List.getElem?_eq_some_iff.mp q1).1, ?_⟩
    rw [q1, q2]
/-- where a callee begins -/
def callB (F H : Hp) (sls : List Sl) (vs : List V) : Bs := ⟨F, H, (iosOf sls vs).map (·.2), iosOf sls vs⟩
theorem start_get {N : List Str} {vs : List V} {j : Nat} {w : Option V} (h : (L2.start N vs)[j]? = some w) : (∃ v, vs[j]? = some v ∧ w = some v) ∨ (vs.length ≤ j ∧ w = none) := by
  unfold L2.start at h
  by_cases c : j < vs.length
  · rw [List.getElem?_append_left (by simpa using c), List.getElem?_map, List.getElem?_eq_getElem c] at h
    exact .inl ⟨vs[j], List.getElem?_eq_getElem c, (Option.some.inj h).symm⟩
  · rw [List.getElem?_append_right (by simpa using c)] at h
    have z := List.mem_of_getElem? h
    exact .inr ⟨Nat.le_of_not_lt c, (List.mem_replicate.mp z).2⟩
theorem SR.enter {fi : Fn} {ec : Ev} {io : List Bool} {sls : List Sl} {vs : List V} (l : Le F H) (A : Args K fa F H e ec σ io sls vs) (hn : vs.length = fi.np) (hN : fi.np ≤ fi.N.length) :
    SR K fa (callB F H sls vs) F (frame fi sls) (L2.start fi.N vs) H := by
  have fg : ∀ {j : Nat} {s : Sl}, (frame fi sls)[j]? = some s → sls[j]? = some s ∨ s = .no := fun {j s} h => by
    unfold frame at h
    by_cases c : j < sls.length
    · rw [List.getElem?_append_left c] at h
      exact .inl h
    · rw [List.getElem?_append_right (Nat.le_of_not_lt c)] at h
      exact .inr (List.mem_replicate.mp (List.mem_of_getElem? h)).2
  refine ⟨l, Le.refl F, fun a o q1 q2 => ?_, fun _ _ q _ => q, fun a h => ?_, fun p hp => ?_, ?_, fun j s w q1 q2 => ?_, fun j d a q1 q2 => ?_, fun j k d d' a q1 q2 q3 q4 => ?_⟩
  · have q2' : F a = none := q2
    rw [q2'] at q1
    cases q1
  · obtain ⟨p, hp, rfl⟩ := List.mem_map.mp h
    obtain ⟨d, q1, q2⟩ := mem_iosOf.mp hp
    obtain ⟨_, a, o, g1, g2, _⟩ := A.sl p.1 _ _ q1 q2
    cases g1
    exact ⟨o, g2⟩
  · obtain ⟨d, q1, q2⟩ := mem_iosOf.mp hp
    unfold L2.start
    rw [List.getElem?_append_left (by rw [List.length_map]; exact (List.getElem?_eq_some_iff.mp q2).1), List.getElem?_map, q2] <;> rfl
  · unfold frame L2.start
    simp only [List.length_append, List.length_replicate, List.length_map, A.len]
  · rcases fg q1 with g | g
    · rcases start_get q2 with ⟨v, g2, g3⟩ | ⟨g2, g3⟩
      · subst g3
        exact A.sl j s v g g2
      · have := (List.getElem?_eq_some_iff.mp g).1
        rw [A.len] at this
        omega
    · subst g
      exact True.intro
  · rcases fg q1 with g | g
    · rcases start_get q2 with ⟨v, g2, g3⟩ | ⟨g2, g3⟩
      · cases g3
        exact .inr (List.mem_map.mpr ⟨(j, a), mem_iosOf.mpr ⟨d, g, g2⟩, rfl⟩)
      · cases g3
    · cases g
  · rcases fg q1 with g | g
    · rcases fg q2 with g' | g'
      · rcases start_get q3 with ⟨v, g2, g3⟩ | ⟨g2, g3⟩
        · rcases start_get q4 with ⟨v', g4, g5⟩ | ⟨g4, g5⟩
          · cases g3
            cases g5
            exact A.inj j k d d' a g g' g2 g4
          · cases g5
        · cases g3
      · cases g'
    · cases g
/-- behind a call, without what was handed on -/
theorem SR.leave {ec e' : Ev} {σ' : L2.St} {Fc : Hp} {io : List Bool} {sls : List Sl} {vs : List V} (r0 : SR K fa B F e σ H) (r : SR K fa B Fc ec σ H) (A : Args K fa Fc H e ec σ io sls vs) (r' : SR K fa (callB Fc H sls vs) F' e' σ' H') :
    SR K fa B F' ec σ H' := by
  have io_own : ∀ a, a ∈ (callB Fc H sls vs).IO → a ∈ owns e σ ∧ a ∉ owns ec σ := fun a h => by
    obtain ⟨p, hp, rfl⟩ := List.mem_map.mp h
    obtain ⟨d, q1, q2⟩ := mem_iosOf.mp hp
    obtain ⟨g1, g2, _⟩ := A.own p.1 d p.2 q1 q2
    exact ⟨g1, g2⟩
  have up : ∀ a, a ∈ owns e σ → B.H a = none ∨ a ∈ B.IO := fun a h => by
    obtain ⟨i, d, q1, q2⟩ := mem_owns.mp h
    exact r0.own i d a q1 q2
  have kp : ∀ a o, H a = some o → a ∉ (callB Fc H sls vs).IO → H' a = some o := fun a o q z => r'.keep a o q z
  have ow : ∀ (i : Nat) (d : D) (a : Addr), ec[i]? = some (.ow d) → σ[i]? = some (some (.ref a)) → a ∉ (callB Fc H sls vs).IO := fun i d a q1 q2 h => (io_own a h).2 (mem_owns.mpr ⟨i, d, q1, q2⟩)
  refine ⟨r'.sub, r.mono.trans r'.mono, fun a o q1 q2 => ?_, fun a o q z => ?_, fun a z => ?_, r.ios, r.len, fun i s w q1 q2 => ?_, r.own, r.inj⟩
  · cases q : Fc a with
    | some o' => exact r.fresh a o' q q2
    | none =>
      rcases r'.fresh a o q1 q with z | z
      · exact .inl (r.none_of z).2.1
      · exact up a (io_own a z).1
  · refine kp a o (r.keep a o q z) fun y => ?_
    rcases up a (io_own a y).1 with y | y
    · rw [y] at q
      cases q
    · exact z y
  · obtain ⟨o, q⟩ := r.io a z
    by_cases hm : a ∈ (callB Fc H sls vs).IO
    · exact r'.io a hm
    · exact ⟨o, kp a o q hm⟩
  · refine (r.sl i s w q1 q2).le r'.mono (fun d a o es ew q => ?_) fun d a es ew => ?_
    · subst es ew
      exact kp a o q (ow i d a q1 q2)
    · subst es ew
      obtain ⟨_, a', o, g1, g2, _, g4⟩ := r.sl i _ _ q1 q2
      cases g1
      cases y : F' a with
      | none => rfl
      | some o' =>
        rcases r'.fresh a o' y g4 with z | z
        · have z' : H a = none := z
          rw [g2] at z'
          cases z'
        · exact absurd z (ow i d a q1 q2)
/-- and what was handed on comes back -/
theorem put_ok {e' : Ev} {σ' : L2.St} {B' : Bs} {up : Addr → Prop} (hup : ∀ a, up a → B.H a = none ∨ a ∈ B.IO) :
    ∀ {bs : List Bor} {io : List Bool} {ec : Ev} {j : Nat} {vs : List V}, SR K fa B' F' e' σ' H' → SR K fa B F' ec σ H' → BVs K fa F' σ bs vs →
      (∀ (m : Nat), ioAt io m = true → ∀ v, vs[m]? = some v → ∃ a, v = .ref a ∧ up a ∧ a ∉ owns ec σ ∧ σ'[j + m]? = some (some (.ref a))) →
      (∀ (m n : Nat) (a : Addr), ioAt io m = true → ioAt io n = true → vs[m]? = some (.ref a) → vs[n]? = some (.ref a) → m = n) → SR K fa B F' (putIos e' ec j io bs) σ H'
  | [], io, ec, j, vs, r', r, h, _, _ => by
    unfold putIos
    exact r
  | b :: bs, io, ec, j, vs, r', r, h, hio, hinj => by
    simp only [BVs] at h
    obtain ⟨v, rr, e1, h1, h2⟩ := h
    subst e1
    have nxt : ∀ {io' : List Bool} {c : Bool} {ec' : Ev}, io = c :: io' ∨ (io = [] ∧ io' = []) → (∀ a, a ∈ owns ec' σ → a ∈ owns ec σ ∨ (c = true ∧ v = .ref a)) → (∀ (m : Nat), ioAt io' m = true → ∀ w, rr[m]? = some w → ∃ a, w = .ref a ∧ up a ∧ a ∉ owns ec' σ ∧ σ'[j + 1 + m]? = some (some (.ref a))) ∧
        (∀ (m n : Nat) (a : Addr), ioAt io' m = true → ioAt io' n = true → rr[m]? = some (.ref a) → rr[n]? = some (.ref a) → m = n) := fun {io' c ec'} hc hsub => by
      have up1 : ∀ m, ioAt io' m = true → ioAt io (m + 1) = true := fun m hm => by
        rcases hc with hc | ⟨hc, hc'⟩
        · subst hc
          exact hm
        · subst hc'
          rw [ioAt_nil] at hm
          cases hm
      refine ⟨fun m hm w hw => ?_, fun m n a g1 g2 g3 g4 => ?_⟩
      · obtain ⟨a, ea, g1, g2, g3⟩ := hio (m + 1) (up1 m hm) w hw
        refine ⟨a, ea, g1, fun hz => ?_, by rw [show j + 1 + m = j + (m + 1) by omega]; exact g3⟩
        rcases hsub a hz with z | ⟨z1, z2⟩
        · exact g2 z
        · subst ea
          have h0 : ioAt io 0 = true := by
            rcases hc with hc | ⟨hc, hc'⟩
            · subst hc
              exact z1
            · subst hc'
              rw [ioAt_nil] at hm
              cases hm
          have := hinj 0 (m + 1) a h0 (up1 m hm) (by rw [z2]; rfl) hw
          omega
      · have := hinj (m + 1) (n + 1) a (up1 m g1) (up1 n g2) g3 g4
        omega
    match io with
    | [] =>
      obtain ⟨n1, n2⟩ := nxt (io' := []) (c := false) (ec' := ec) (.inr ⟨rfl, rfl⟩) fun a z => .inl z
      have z := put_ok hup (bs := bs) r' r h2 n1 n2
      cases b <;> exact z
    | false :: io =>
      obtain ⟨n1, n2⟩ := nxt (io' := io) (c := false) (ec' := ec) (.inl rfl) fun a z => .inl z
      have z := put_ok hup (bs := bs) r' r h2 n1 n2
      cases b <;> exact z
    | true :: io =>
      cases b with
      | dat d =>
        unfold putIos
        obtain ⟨n1, n2⟩ := nxt (io' := io) (c := true) (ec' := ec) (.inl rfl) fun a z => .inl z
        exact put_ok hup (bs := bs) r' r h2 n1 n2
      | slot i =>
        unfold putIos
        obtain ⟨a, ea, g1, g2, g3⟩ := hio 0 rfl v rfl
        subst ea
        have hi : σ[i]? = some (some (.ref a)) := h1
        have hsl : SlR K fa F' H' (e'.getD j .no) (some (.ref a)) := by
          cases y : e'[j]? with
          | none =>
            rw [List.getD_eq_getElem?_getD, y]
            exact True.intro
          | some s =>
            rw [getD_some y]
            exact r'.sl j s _ y g3
        have r2 := r.give hi hsl fun d b e1 e2 => by
          cases e2
          exact ⟨hup a g1, g2⟩
        obtain ⟨n1, n2⟩ := nxt (io' := io) (c := true) (ec' := ec.set i (e'.getD j .no)) (.inl rfl) fun b z => by
          obtain ⟨m, d, q1, q2⟩ := mem_owns.mp z
          by_cases hm : i = m
          · subst hm
            rw [hi] at q2
            cases q2
            exact .inr ⟨rfl, rfl⟩
          · rw [List.getElem?_set_ne hm] at q1
            exact .inl (mem_owns.mpr ⟨m, d, q1, q2⟩)
        exact put_ok hup (bs := bs) r' r2 h2 n1 n2
/-- the heap only grows -/
theorem SR.grow (r : SR K fa B F e σ H) (l : Le H H') : SR K fa B F e σ H' := by
  refine ⟨r.sub.trans l, r.mono, r.fresh, fun a o q z => l _ _ (r.keep a o q z), fun a z => ?_, r.ios, r.len, fun i s w q1 q2 => ?_, r.own, r.inj⟩
  · obtain ⟨o, q⟩ := r.io a z
    exact ⟨o, l _ _ q⟩
  · refine (r.sl i s w q1 q2).le (Le.refl F) (fun d a o _ _ q => l _ _ q) fun d a es ew => ?_
    subst es ew
    obtain ⟨_, a', o, g1, _, _, g4⟩ := r.sl i _ _ q1 q2
    cases g1
    exact g4
end
end EV
/-! A call by the evaluator is the call. -/
namespace EV
open PySem L2
section
variable {K : PySem.W.Frag} {fa xa : Nat → Addr} {W : WX} {B : Bs} {F F' H H' : Hp} {e : Ev} {σ : L2.St}
theorem mkArgs_io : ∀ {bs : List Bor} {io : List Bool} {e ec : Ev} {sls : List Sl}, mkArgs e io bs = some (sls, ec) → ∀ m, m < bs.length → ioAt io m = true → ∃ d, sls[m]? = some (.ow d)
  | [], _, _, _, _, _, m, hm, _ => by simp at hm
  | b :: bs, io, e, ec, sls, q, m, hm, hio => by
    match io, q, hio with
    | true :: io, q, hio =>
      cases b with
      | dat d => simp [mkArgs] at q
      | slot i =>
        simp only [mkArgs] at q
        split at q
        · rename_i d hd
          cases hz : mkArgs (e.set i .no) io bs with
          | none =>
            rw [hz] at q
            cases q
          | some z =>
            rw [hz] at q
            cases q
            cases m with
            | zero => exact ⟨d, rfl⟩
            | succ m => exact mkArgs_io hz m (by simpa using hm) hio
        · cases q
    | false :: io, q, hio =>
      simp only [mkArgs] at q
      split at q
      · rename_i d hd
        cases hz : mkArgs (b.frz e) io bs with
        | none =>
          rw [hz] at q
          cases q
        | some z =>
          rw [hz] at q
          cases q
          cases m with
          | zero => cases hio
          | succ m => exact mkArgs_io hz m (by simpa using hm) hio
      · cases q
    | [], q, hio =>
      rw [ioAt_nil] at hio
      cases hio
theorem putIos_get {e' : Ev} {d' : D} {i : Nat} : ∀ {bs : List Bor} {io : List Bool} {ec : Ev} {j : Nat}, (putIos e' ec j io bs)[i]? = some (.ow d') → ec[i]? = some (.ow d') ∨ ∃ m, ioAt io m = true ∧ bs[m]? = some (.slot i) ∧ e'[j + m]? = some (.ow d')
  | [], io, ec, j, h => by
    unfold putIos at h
    exact .inl h
  | b :: bs, io, ec, j, h => by
    have up : ∀ {io' : List Bool} {c : Bool} {ec' : Ev}, (ec'[i]? = some (.ow d') ∨ ∃ m, ioAt io' m = true ∧ bs[m]? = some (.slot i) ∧ e'[j + 1 + m]? = some (.ow d')) → (∀ m, ioAt io' m = true → ioAt io (m + 1) = true) → (ec'[i]? = some (.ow d') → ec[i]? = some (.ow d') ∨ ∃ m, ioAt io m = true ∧ (b :: bs)[m]? = some (.slot i) ∧ e'[j + m]? = some (.ow d')) →
        ec[i]? = some (.ow d') ∨ ∃ m, ioAt io m = true ∧ (b :: bs)[m]? = some (.slot i) ∧ e'[j + m]? = some (.ow d') := fun {io' c ec'} h1 h2 h3 => by
      rcases h1 with z | ⟨m, z1, z2, z3⟩
      · exact h3 z
      · exact .inr ⟨m + 1, h2 m z1, z2, by rw [show j + (m + 1) = j + 1 + m by omega]; exact z3⟩
    match io with
    | [] =>
      have h' : (putIos e' ec (j + 1) [] bs)[i]? = some (.ow d') := by cases b <;> exact h
      exact up (c := true) (putIos_get h') (fun m z => by rw [ioAt_nil] at z; cases z) .inl
    | false :: io =>
      have h' : (putIos e' ec (j + 1) io bs)[i]? = some (.ow d') := by cases b <;> exact h
      exact up (c := true) (putIos_get h') (fun m z => z) .inl
    | true :: io =>
      cases b with
      | dat d => exact up (c := true) (putIos_get (show (putIos e' ec (j + 1) io bs)[i]? = some (.ow d') from h)) (fun m z => z) .inl
      | slot k =>
        refine up (c := true) (putIos_get (show (putIos e' (ec.set k (e'.getD j .no)) (j + 1) io bs)[i]? = some (.ow d') from h)) (fun m z => z) fun z => ?_
        by_cases hk : k = i
        · subst hk
          by_cases hl : k < ec.length
          · rw [List.getElem?_set_self hl] at z
            exact .inr ⟨0, rfl, rfl, getD_ow (Option.some.inj z)⟩
          · rw [List.getElem?_eq_none (by simpa using hl)] at z
            cases z
        · rw [List.getElem?_set_ne hk] at z
          exact .inl z
theorem BVs.length : ∀ {bs : List Bor} {vs : List V}, BVs K fa F σ bs vs → bs.length = vs.length
  | [], vs, h => by
    simp only [BVs] at h
    rw [h] <;> rfl
  | b :: bs, vs, h => by
    simp only [BVs] at h
    obtain ⟨v, r, e1, _, h2⟩ := h
    rw [e1, List.length_cons, List.length_cons, BVs.length h2]
theorem BVs.get : ∀ {bs : List Bor} {vs : List V} {m : Nat} {b : Bor}, BVs K fa F σ bs vs → bs[m]? = some b → ∃ v, vs[m]? = some v ∧ BV K fa F σ b v
  | [], vs, m, b, h, q => by simp at q
  | c :: bs, vs, m, b, h, q => by
    simp only [BVs] at h
    obtain ⟨v, r, e1, h1, h2⟩ := h
    subst e1
    cases m with
    | zero =>
      cases q
      exact ⟨v, rfl, h1⟩
    | succ m => exact BVs.get (m := m) h2 q
theorem call_ok {fi : Fn} {call : Nat → List Sl → FR} {f : Nat} {bs : List Bor} {vs : List V} {Q : VK} {F0 : Hp} (r : SR K fa B F e σ H) (l : Le F0 F) (bv : BVs K fa F σ bs vs) (hn : fi.np = bs.length) (hN : fi.np ≤ fi.N.length)
    (h : XP K fa xa W B F0 σ (doCall call fi.io f bs e) fun x e' => Fin K fa B F0 e' σ x.1 x.2 Q) : spFn K fa xa fi call f vs H Q (WE W σ) := by
  unfold doCall at h
  cases hm : mkArgs e fi.io bs with
  | none =>
    rw [hm] at h
    exact h.elim
  | some z =>
    obtain ⟨sls, ec⟩ := z
    rw [hm] at h
    obtain ⟨Fc, l1, r1, A, new⟩ := mk_ok r bv hm
    have hl : vs.length = fi.np := by rw [← BVs.length bv, hn]
    have up : ∀ a, a ∈ owns e σ → B.H a = none ∨ a ∈ B.IO := fun a z => by
      obtain ⟨i, d, q1, q2⟩ := mem_owns.mp z
      exact r.own i d a q1 q2
    have io_own : ∀ a, a ∈ (callB Fc H sls vs).IO → a ∈ owns e σ ∧ a ∉ owns ec σ := fun a h => by
      obtain ⟨p, hp, rfl⟩ := List.mem_map.mp h
      obtain ⟨d, q1, q2⟩ := mem_iosOf.mp hp
      obtain ⟨g1, g2, _⟩ := A.own p.1 d p.2 q1 q2
      exact ⟨g1, g2⟩
    -- the frame behind the call, everything handed back
    have fin : ∀ {e' : Ev} {σ' : L2.St} {F' H' : Hp}, Le Fc F' → SR K fa (callB Fc H sls vs) F' e' σ' H' → SR K fa B F' (putIos e' ec 0 fi.io bs) σ H' := fun {e' σ' F' H'} l' r' => by
      have r2 := SR.leave r r1 A r'
      refine put_ok (up := fun a => a ∈ owns e σ) up r' r2 (BVs.le (l1.trans l') bv) (fun m hio v hv => ?_) fun m n a g1 g2 g3 g4 => ?_
      · have hmb : m < bs.length := by
          rw [BVs.length bv]
          exact (List.getElem?_eq_some_iff.mp hv).1
        obtain ⟨d, hd⟩ := mkArgs_io hm m hmb hio
        obtain ⟨_, a, o, ea, _⟩ := A.sl m _ _ hd hv
        have ev : v = .ref a := Option.some.inj ea
        subst ev
        obtain ⟨g1, g2, _⟩ := A.own m d a hd hv
        refine ⟨a, rfl, g1, g2, ?_⟩
        rw [Nat.zero_add]
        exact r'.ios (m, a) (mem_iosOf.mpr ⟨d, hd, hv⟩)
      · have hm1 : m < bs.length := by
          rw [BVs.length bv]
          exact (List.getElem?_eq_some_iff.mp g3).1
        have hn1 : n < bs.length := by
          rw [BVs.length bv]
          exact (List.getElem?_eq_some_iff.mp g4).1
        obtain ⟨d, hd⟩ := mkArgs_io hm m hm1 g1
        obtain ⟨d', hd'⟩ := mkArgs_io hm n hn1 g2
        exact A.inj m n d d' a hd hd' g3 g4
    refine ⟨Fc, sls, _, _, hl, by rw [A.len, hl], SR.enter r1.sub A hl hN, fun p hp => ?_, ?_⟩
    · obtain ⟨d, q1, q2⟩ := mem_iosOf.mp hp
      exact (A.own p.1 d p.2 q1 q2).2.2
    · cases hc : call f sls with
      | st =>
        simp only [hc] at h
        exact h.elim
      | er c e' =>
        simp only [hc] at h
        exact fun F' σ' H' l' r' => h F' H' ((l.trans l1).trans l') (fin l' r')
      | ok d fr e' =>
        simp only [hc] at h
        intro F' σ' H' v l' r' fv
        by_cases c : (d.flat && !(fi.io.any id)) = true
        · rw [if_pos c] at h
          obtain ⟨c1, c2⟩ := Bool.and_eq_true_iff.mp c
          have hfr : fr = false := by
            cases fr with
            | false => rfl
            | true =>
              obtain ⟨p, o, _, _, ho, _⟩ := fv.new
              rw [ho.container] at c1
              cases c1
          subst hfr
          have noio : (callB Fc H sls vs).IO = [] := by
            cases z : (callB Fc H sls vs).IO with
            | nil => rfl
            | cons a t =>
              have ha : a ∈ (callB Fc H sls vs).IO := by rw [z]; exact List.mem_cons_self
              obtain ⟨p, hp, rfl⟩ := List.mem_map.mp ha
              obtain ⟨d2, q1, q2⟩ := mem_iosOf.mp hp
              have g3 := (A.own p.1 d2 p.2 q1 q2).2.2
              unfold ioAt at g3
              rw [List.getD_eq_getElem?_getD] at g3
              cases y : fi.io[p.1]? with
              | none =>
                rw [y] at g3
                cases g3
              | some b =>
                rw [y] at g3
                have hb : b = true := g3
                subst hb
                have : fi.io.any id = true := List.any_eq_true.mpr ⟨true, List.mem_of_getElem? y, rfl⟩
                rw [this] at c2
                cases c2
          have gr : Le H H' := fun a o q => r'.keep a o q (by show a ∉ (callB Fc H sls vs).IO; rw [noio]; exact fun z => nomatch z)
          exact h F H' v l (r.grow gr) (FV.sh (DR.flat_le c1 fv.dr F))
        · rw [if_neg c] at h
          refine h F' H' v ((l.trans l1).trans l') (fin l' r') ?_
          cases fr with
          | false => exact FV.sh fv.dr
          | true =>
            obtain ⟨p, o, e1, g1, g2, g3, g4, g5⟩ := fv.new
            subst e1
            refine FV.mk g1 g2 g3 ?_ fun i d' q1 q2 => ?_
            · rcases g4 with z | z
              · exact .inl (r.none_of z).2.1
              · exact up p (io_own p z).1
            · rcases putIos_get q1 with z | ⟨m, z1, z2, z3⟩
              · have hz : p ∈ owns ec σ := mem_owns.mpr ⟨i, d', z, q2⟩
                rcases g4 with y | y
                · obtain ⟨a, o', k1, k2, _⟩ := r1.ow z
                  rw [q2] at k1
                  cases k1
                  have y' : H p = none := y
                  rw [k2] at y'
                  cases y'
                · exact (io_own p y).2 hz
              · obtain ⟨v', k1, k2⟩ := BVs.get bv z2
                have k2' : σ[i]? = some (some v') := k2
                rw [q2] at k2'
                cases k2'
                have hmb : m < bs.length := (List.getElem?_eq_some_iff.mp z2).1
                obtain ⟨d2, hd2⟩ := mkArgs_io hm m hmb z1
                have k3 := r'.ios (m, p) (mem_iosOf.mpr ⟨d2, hd2, k1⟩)
                rw [Nat.zero_add] at z3
                exact g5 m d' z3 k3
end
end EV
/-! Expressions, node by node. -/
namespace EV
open PySem L2
section
variable {K : PySem.W.Frag} {fa xa : Nat → Addr} {W : WX} {B : Bs} {F F' H H' : Hp} {e : Ev} {σ : L2.St}
theorem read1 {α : Type} {A : EvR} {k : D → Ev → R α} {ok : α → Ev → Prop} {P : VK} (r : SR K fa B F e σ H) (h : XP K fa xa W B F σ (with1 A e k) ok)
    (c : ∀ d e1 F1 H1 x, Le F F1 → SR K fa B F1 e1 σ H1 → CR K fa F1 H1 d x → XP K fa xa W B F σ (k d e1) ok → P x H1) : rB K fa xa W A.b σ H P := by
  unfold with1 at h
  refine ⟨B, F, e, r, (h.run (Le.refl F)).imp fun b e1 _ q F1 H1 v l1 r1 bv => ?_⟩
  cases z : b.res e1 with
  | none =>
    rw [z] at q
    exact q.elim
  | some d =>
    rw [z] at q
    exact c d e1 F1 H1 v l1 r1 (BV.cr r1 bv z) q
theorem read2 {A A' : EvR} {k : D → D → Ev → R (D × Bool)} {ok : D × Bool → Ev → Prop} {P : V → V → Hp → Prop} (r : SR K fa B F e σ H) (h : XP K fa xa W B F σ (with2 A A' e k) ok)
    (c : ∀ d d' e2 F2 H2 x y, Le F F2 → SR K fa B F2 e2 σ H2 → CR K fa F2 H2 d x → CR K fa F2 H2 d' y → XP K fa xa W B F σ (k d d' e2) ok → P x y H2) : rB K fa xa W A.b σ H fun x H1 => rB K fa xa W A'.b σ H1 fun y H2 => P x y H2 := by
  unfold with2 at h
  refine ⟨B, F, e, r, (h.run (Le.refl F)).imp fun b e1 _ q F1 H1 x l1 r1 bv => ⟨B, F1, e1, r1, (q.run l1).imp fun b' e2 _ q2 F2 H2 y l2 r2 bv' => ?_⟩⟩
  cases z : b.res e2 with
  | none =>
    rw [z] at q2
    exact q2.elim
  | some d =>
    cases z' : b'.res e2 with
    | none =>
      rw [z, z'] at q2
      exact q2.elim
    | some d' =>
      rw [z, z'] at q2
      exact c d d' e2 F2 H2 x y (l1.trans l2) r2 (BV.cr r2 (BV.le l2 bv) z) (BV.cr r2 bv' z') q2
theorem reads {α : Type} {A : EvR} {k : List D → List Bor → Ev → R α} {ok : α → Ev → Prop} {P : List V → Hp → Prop} (r : SR K fa B F e σ H) (h : XP K fa xa W B F σ (withs A e k) ok)
    (c : ∀ ds bs e1 F1 H1 vs, Le F F1 → SR K fa B F1 e1 σ H1 → BVs K fa F1 σ bs vs → ress e1 bs = some ds → XP K fa xa W B F σ (k ds bs e1) ok → P vs H1) : rBs K fa xa W A.bs σ H P := by
  unfold withs at h
  refine ⟨B, F, e, r, (h.run (Le.refl F)).imp fun bs e1 _ q F1 H1 vs l1 r1 bv => ?_⟩
  cases z : ress e1 bs with
  | none =>
    rw [z] at q
    exact q.elim
  | some ds =>
    rw [z] at q
    exact c ds bs e1 F1 H1 vs l1 r1 bv z q
theorem XP.bl2 {o : Option Bool} {ok : D × Bool → Ev → Prop} (h : XP K fa xa W B F σ (bl2 o e) ok) : ∃ k, o = some k ∧ ok (.bl k, false) e := by
  obtain ⟨a, h1, h2⟩ := XP.of h
  cases o with
  | none => cases h1
  | some k =>
    cases h1
    exact ⟨k, rfl, h2⟩
theorem XP.dat {o : Option D} {ok : D × Bool → Ev → Prop} (h : XP K fa xa W B F σ (dat o e) ok) : ∃ d, o = some d ∧ ok (d, false) e := by
  obtain ⟨a, h1, h2⟩ := XP.of h
  cases o with
  | none => cases h1
  | some k =>
    cases h1
    exact ⟨k, rfl, h2⟩
end
section
variable {G : Cfg} {fa xa : Nat → Addr} {call : Nat → List Sl → FR} {k : Nat} {lv : Bool} {X : Cx} {sc : Scope} {W : WX}
abbrev SndA (G : Cfg) (fa xa : Nat → Addr) (call : Nat → List Sl → FR) (lv : Bool) (X : Cx) (sc : Scope) (W : WX) (a : SE) : Prop := Snd G fa xa call X W (evR G call a) (erR G X.N lv a sc)
theorem and3 {a b c : Bool} (h : (a && b && c) = true) : a = true ∧ b = true ∧ c = true := by
  cases a <;> cases b <;> cases c <;> first | exact ⟨rfl, rfl, rfl⟩ | cases h
theorem and2 {a b : Bool} (h : (a && b) = true) : a = true ∧ b = true := Bool.and_eq_true_iff.mp h
theorem nm_ok {x : Str} (h : nmB x = true) : (x == ("__debug__" : Str)) = false ∧ (x == ("__classdict__" : Str)) = false ∧ x ≠ "__name__" := by
  unfold nmB at h
  obtain ⟨h1, h2, h3⟩ := and3 h
  exact ⟨by simpa using h1, by simpa using h2, by simpa using h3⟩
theorem vis_ok (g : GoodE G fa xa call k lv X sc W) {x : Str} (h : visB sc x = true) : Vis X.env.scope x := by
  rw [g.scope]
  unfold visB at h
  split at h
  · exact .inl (by assumption)
  · exact .inr (.inl (by assumption))
  · exact .inr (.inr (by assumption))
  · cases h
theorem gl_ok (g : GoodE G fa xa call k lv X sc W) {x : Str} (h : glB sc x = true) : Gl X x := by
  show X.env.scope.names.lookup x = some .globalImplicit
  rw [g.scope]
  unfold glB at h
  split at h
  · assumption
  · cases h
theorem slot_ok (g : GoodE G fa xa call k lv X sc W) {i : Nat} {x : Str} {p : Pos} (h : slotB X.N sc i x = true) : PE X (.Name x p) (tVar i) := by
  obtain ⟨h1, h2, h3⟩ := and3 h
  obtain ⟨n1, n2, _⟩ := nm_ok h3
  exact pe_var (of_decide_eq_true h1) (vis_ok g h2) n1 n2
theorem snd_var (g : GoodE G fa xa call k lv X sc W) (i : Nat) : SndA G fa xa call lv X sc W (.var i) := by
  have at_ : ∀ x, okE x = true → (match x with | .Name x _ => slotB X.N sc i x | _ => false) = true → PE X x (tVar i) := fun x _ hx => by
    cases x <;> first
      | exact slot_ok g hx
      | cases hx
  have pl : ∀ x : Expr, (match x with | .Name x _ => slotB X.N sc i x | _ => false) = true → plainT x = true := fun x hx => by
    cases x <;> first
      | rfl
      | cases hx
  refine Snd.ofETB (fun x ok hx => PE.imp (at_ x ok hx) fun σ H Q ⟨B, F, e, r, q⟩ => ?_) (fun x ok hx => PT.imp (pt_truth (at_ x ok hx) (plainT_of (pl x hx))) fun σ H Q ⟨B, F, e, r, q⟩ => ?_)
    (fun op vs p hx => nomatch hx) (fun x ok hx => PE.imp (at_ x ok hx) fun σ H Q ⟨B, F, e, r, q⟩ => ?_)
  · cases z : e.getD i .no with
    | no =>
      simp only [z] at q
      exact q.elim
    | sh d =>
      simp only [z] at q
      obtain ⟨w, h1, v, h2, h3⟩ := r.at (getD_sh z)
      subst h2
      exact ⟨v, h1, q F H v (Le.refl F) r (FV.sh h3)⟩
    | ow d =>
      simp only [z] at q
      obtain ⟨F', v, l, r', h1, h2⟩ := r.frzSlot (getD_ow z)
      exact ⟨v, h1, q F' H v l r' (FV.sh h2)⟩
  · cases z : (e.getD i .no).get? with
    | none =>
      simp only [z] at q
      exact q.elim
    | some d =>
      simp only [z] at q
      obtain ⟨b, hb, q2⟩ := XP.of q
      have hv : ∃ v, σ[i]? = some (some v) := by
        cases y : e.getD i .no with
        | no =>
          rw [y] at z
          cases z
        | sh d' =>
          obtain ⟨w, h1, v, h2, h3⟩ := r.at (getD_sh y)
          subst h2
          exact ⟨v, h1⟩
        | ow d' =>
          obtain ⟨a, o, h1, _⟩ := r.ow (getD_ow y)
          exact ⟨_, h1⟩
      obtain ⟨v, hv⟩ := hv
      exact ⟨v, hv, b, tru_of r.sub hb (BV.cr r (b := .slot i) hv z), q2 F H (Le.refl F) r⟩
  · cases z : e.getD i .no with
    | no =>
      simp only [z] at q
      exact q.elim
    | sh d =>
      simp only [z] at q
      obtain ⟨w, h1, v, h2, h3⟩ := r.at (getD_sh z)
      subst h2
      exact ⟨v, h1, q F H v (Le.refl F) r h3⟩
    | ow d =>
      simp only [z] at q
      obtain ⟨a, o, h1, _⟩ := r.ow (getD_ow z)
      exact ⟨_, h1, q F H _ (Le.refl F) r h1⟩
theorem snd_lit (g : GoodE G fa xa call k lv X sc W) (d : D) : SndA G fa xa call lv X sc W (.lit d) := by
  refine Snd.ofPE (fun x ok hx => ?_) (fun x ok hx => by cases x <;> first | rfl | cases hx)
  cases x <;> try (cases hx)
  rename_i c j p
  have hc : litB d c = true := hx
  cases d <;> cases c <;> try (cases hc)
  · exact PE.imp pe_non fun σ H Q ⟨B, F, e, r, q⟩ => q.flat r (by simp only [DR])
  · rename_i b c
    have e1 : b = c := by simpa [litB] using hc
    subst e1
    exact PE.imp pe_bl fun σ H Q ⟨B, F, e, r, q⟩ => q.flat r (by simp only [DR])
  · rename_i b c
    have e1 : b = c := of_decide_eq_true hc
    subst e1
    exact PE.imp pe_int fun σ H Q ⟨B, F, e, r, q⟩ => q.flat r (by simp only [DR])
  · rename_i s x
    have e1 : x.cps.toList = s := of_decide_eq_true hc
    subst e1
    exact PE.imp pe_str fun σ H Q ⟨B, F, e, r, q⟩ => q.flat r (by simp only [DR])
theorem snd_glo (g : GoodE G fa xa call k lv X sc W) (n : Nat) : SndA G fa xa call lv X sc W (.glo n) := by
  refine Snd.ofPE (fun x ok hx => ?_) (fun x ok hx => by cases x <;> first | rfl | cases hx)
  cases x <;> try (cases hx)
  rename_i x p
  obtain ⟨h1, h2, h3⟩ := and3 hx
  cases z : G.glos[n]? with
  | none =>
    rw [z] at h1
    cases h1
  | some pr =>
    rw [z] at h1
    obtain ⟨y, d⟩ := pr
    have e1 : y = x := of_decide_eq_true h1
    subst e1
    obtain ⟨u, v, m1, m2, m3⟩ := g.facts.glo n y d z
    refine PE.imp (pe_glob (gl_ok g h2) m1 m2 (nm_ok h3).1) fun σ H Q ⟨B, F, e, r, q⟩ => ?_
    simp only [z] at q
    exact q.flat r (m3 F)
theorem snd_fnv (g : GoodE G fa xa call k lv X sc W) (n : Nat) : SndA G fa xa call lv X sc W (.fnv n) := by
  refine Snd.ofPE (fun x ok hx => ?_) (fun x ok hx => by cases x <;> first | rfl | cases hx)
  cases x <;> try (cases hx)
  rename_i x p
  obtain ⟨h1, h2, h3⟩ := and3 hx
  cases z : G.fns[n]? with
  | none =>
    rw [z] at h1
    cases h1
  | some fi =>
    rw [z] at h1
    have e1 : fi.name = x := of_decide_eq_true h1
    subst e1
    exact PE.imp (pe_glob (v := .ref (fa n)) (gl_ok g h2) (g.facts.fn n fi z).1 rfl (nm_ok h3).1) fun σ H Q ⟨B, F, e, r, q⟩ => q.flat r (by simp only [DR])
theorem units_ok (g : GoodE G fa xa call k lv X sc W) : X.A.units + 65 < cLine := by
  exact g.un
theorem snd_bin (g : GoodE G fa xa call k lv X sc W) (op : Operator) {a b : SE} (A : SndA G fa xa call lv X sc W a) (C : SndA G fa xa call lv X sc W b) : SndA G fa xa call lv X sc W (.bin op a b) := by
  refine Snd.ofPE (fun x ok hx => ?_) (fun x ok hx => by cases x <;> first | rfl | cases hx)
  cases x <;> try (cases hx)
  rename_i l o r' p
  obtain ⟨h1, h2, h3⟩ := and3 hx
  have e1 : o = op := of_decide_eq_true h1
  subst e1
  refine PE.imp (pe_op (op_bin (fa := fa) o) (A.b _ h2) (C.b _ h3)) fun σ H Q ⟨B, F, e, r, q⟩ => read2 r q fun d d' e2 F2 H2 x y l2 r2 cx cy q2 => ?_
  obtain ⟨z, hz, q3⟩ := XP.of q2
  exact ⟨B, F2, e2, σ, d, d', z.1, z.2, r2, cx, cy, hz, Fin.le l2 q3⟩
theorem snd_una (g : GoodE G fa xa call k lv X sc W) (op : UnaryOp) {a : SE} (A : SndA G fa xa call lv X sc W a) : SndA G fa xa call lv X sc W (.una op a) := by
  refine Snd.ofPE (fun x ok hx => ?_) (fun x ok hx => ?_)
  · cases x <;> try (cases hx)
    rename_i o l p
    obtain ⟨h1, h2, h3⟩ := and3 hx
    have e1 : o = op := of_decide_eq_true h1
    subst e1
    cases o <;> try (cases h2)
    · refine PE.imp (pe_un un_inv (A.b _ h3)) fun σ H Q ⟨B, F, e, r, q⟩ => read1 r q fun d e1 F1 H1 x l1 r1 cx q1 => ?_
      obtain ⟨z, hz, q2⟩ := XP.dat q1
      cases d <;> try (cases hz)
      simp only [CR, DR] at cx
      exact ⟨_, cx, (Fin.le l1 q2).flat r1 (by simp only [DR])⟩
    · refine PE.imp (pe_un un_neg (A.b _ h3)) fun σ H Q ⟨B, F, e, r, q⟩ => read1 r q fun d e1 F1 H1 x l1 r1 cx q1 => ?_
      obtain ⟨z, hz, q2⟩ := XP.dat q1
      cases d <;> try (cases hz)
      simp only [CR, DR] at cx
      exact ⟨_, cx, (Fin.le l1 q2).flat r1 (by simp only [DR])⟩
  · cases x <;> first
      | rfl
      | (rename_i o l p; obtain ⟨h1, h2, h3⟩ := and3 hx; have e1 : o = op := of_decide_eq_true h1; subst e1; cases o <;> first | rfl | cases h2)
      | cases hx
theorem snd_cmp (g : GoodE G fa xa call k lv X sc W) (op : CmpOp) {a b : SE} (A : SndA G fa xa call lv X sc W a) (C : SndA G fa xa call lv X sc W b) : SndA G fa xa call lv X sc W (.cmp op a b) := by
  have rd : ∀ {σ : L2.St} {H : Hp} {Q : VK}, rF X.K fa xa W (evR G call (.cmp op a b)).f σ H Q → tOp (rCmpD X.K fa op) (rB X.K fa xa W (evR G call a).b) (rB X.K fa xa W (evR G call b).b) σ H Q := fun {σ H Q} ⟨B, F, e, r, q⟩ => read2 r q fun d d' e2 F2 H2 x y l2 r2 cx cy q2 => by
    obtain ⟨k, hk, q3⟩ := XP.bl2 q2
    exact ⟨B, F2, e2, σ, d, d', .bl k, false, r2, cx, cy, by simp only [hk]; rfl, Fin.le l2 q3⟩
  have sp : ∀ {x : Expr} {P : Prop}, (match x with | .Compare l [o] [r] _ => decide (o = op) && (erR G X.N lv a sc).e l && (erR G X.N lv b sc).e r | _ => false) = true →
      (∀ l r p, x = .Compare l [op] [r] p → (erR G X.N lv a sc).e l = true → (erR G X.N lv b sc).e r = true → P) → P := fun {x P} hx c => by
    split at hx
    · rename_i l o r p
      obtain ⟨h1, h2, h3⟩ := and3 hx
      have e1 : o = op := of_decide_eq_true h1
      subst e1
      exact c l r p rfl h2 h3
    · cases hx
  refine Snd.ofET (fun x ok hx => sp hx fun l r p e1 h2 h3 => ?_) (fun x ok hx => sp hx fun l r p e1 h2 h3 => ?_) (fun op vs p hx => nomatch hx)
  · subst e1
    exact PE.imp (pe_cmpR (op_cmp (fa := fa) (units_ok g) op) (A.b _ h2) (C.b _ h3) (nomark_of (C.ok _ h3))) fun σ H Q h => rd h
  · subst e1
    refine PT.imp (pt_cmpR (op_cmp (fa := fa) (units_ok g) op) (A.b _ h2) (C.b _ h3) (nomark_of (C.ok _ h3))) fun σ H Q ⟨B, F, e, r, q⟩ => ?_
    have q' : XP X.K fa xa W B F σ (((evR G call (.cmp op a b)).f e).bind fun x e1 => R.of (truD x.1) e1) _ := q
    refine rd ⟨B, F, e, r, (q'.run (Le.refl F)).imp fun y e1 hy q1 F1 H1 v l1 r1 fv => ?_⟩
    obtain ⟨k, hk, q2⟩ := XP.of q1
    have hb : ∃ b, y = (.bl b, false) := by
      have hy' : with2 (evR G call a) (evR G call b) e (fun d d' e2 => bl2 (cmpD op d d') e2) = .ok y e1 := hy
      unfold with2 at hy'
      cases z1 : (evR G call a).b e <;> rw [z1] at hy' <;> try (cases hy')
      rename_i b1 e1'
      simp only [R.bind] at hy'
      cases z2 : (evR G call b).b e1' <;> rw [z2] at hy' <;> try (cases hy')
      rename_i b2 e2'
      simp only [R.bind] at hy'
      split at hy'
      · rename_i d d' _ _
        unfold bl2 at hy'
        cases z3 : cmpD op d d' with
        | none =>
          rw [z3] at hy'
          cases hy'
        | some b =>
          rw [z3] at hy'
          cases hy'
          exact ⟨b, rfl⟩
      · cases hy'
    obtain ⟨b, eb⟩ := hb
    subst eb
    have fv' := fv.dr
    simp only [DR] at fv'
    have ek : b = k := Option.some.inj hk
    subst ek
    exact ⟨b, fv', q2 F1 H1 l1 r1⟩
theorem snd_ix (g : GoodE G fa xa call k lv X sc W) {a b : SE} (A : SndA G fa xa call lv X sc W a) (C : SndA G fa xa call lv X sc W b) : SndA G fa xa call lv X sc W (.ix a b) := by
  refine Snd.ofPE (fun x ok hx => ?_) (fun x ok hx => by cases x <;> first | rfl | cases hx)
  cases x <;> try (cases hx)
  rename_i l r' p
  obtain ⟨h1, h2⟩ := and2 hx
  refine PE.imp (pe_ix (ix_ok (fa := fa)) (A.b _ h1) (C.b _ h2) (plainIx_of (C.ok _ h2))) fun σ H Q ⟨B, F, e, r, q⟩ => read2 r q fun d d' e2 F2 H2 x y l2 r2 cx cy q2 => ?_
  obtain ⟨z, hz, q3⟩ := XP.dat q2
  exact ⟨B, F2, e2, σ, d, d', z, false, r2, cx, cy, by simp only [hz]; rfl, Fin.le l2 q3⟩
theorem snd_nil (g : GoodE G fa xa call k lv X sc W) : SndA G fa xa call lv X sc W .nil := by
  refine ⟨fun _ h => (nomatch h), fun _ h => (nomatch h), fun _ _ _ h => (nomatch h), fun _ h => (nomatch h), fun _ h => (nomatch h), fun xs hx => ?_, fun _ _ h => (nomatch h), fun _ h => (nomatch h), fun _ h => (nomatch h)⟩
  cases xs with
  | nil => exact PA.imp pa_nil fun σ H Q ⟨B, F, e, r, q⟩ => q F H [] (Le.refl F) r (by simp only [BVs])
  | cons _ _ => cases hx
theorem snd_cons (g : GoodE G fa xa call k lv X sc W) {a xs : SE} (A : SndA G fa xa call lv X sc W a) (C : SndA G fa xa call lv X sc W xs) : SndA G fa xa call lv X sc W (.cons a xs) := by
  refine ⟨fun _ h => (nomatch h), fun _ h => (nomatch h), fun _ _ _ h => (nomatch h), fun _ h => (nomatch h), fun _ h => (nomatch h), fun ys hx => ?_, fun _ _ h => (nomatch h), fun _ h => (nomatch h), fun _ h => (nomatch h)⟩
  cases ys with
  | nil => cases hx
  | cons y ys =>
    obtain ⟨h1, h2⟩ := and2 (show ((erR G X.N lv a sc).e y && (erR G X.N lv xs sc).es ys) = true from hx)
    refine PA.imp (pa_cons (A.b _ h1) (C.es _ h2) (starE (A.ok _ h1))) fun σ H Q ⟨B, F, e, r, q⟩ => ?_
    have q' : XP X.K fa xa W B F σ (((evR G call a).b e).bind fun b e1 => ((evR G call xs).bs e1).bind fun bs e2 => .ok (b :: bs) e2) _ := q
    refine ⟨B, F, e, r, (q'.run (Le.refl F)).imp fun b e1 _ q1 F1 H1 v l1 r1 bv => ⟨B, F1, e1, r1, (q1.run l1).imp fun bs e2 _ q2 F2 H2 vs l2 r2 bvs => ?_⟩⟩
    exact q2 F2 H2 (v :: vs) (l1.trans l2) r2 (by simp only [BVs]; exact ⟨v, vs, rfl, BV.le l2 bv, bvs⟩)
theorem snd_nop (g : GoodE G fa xa call k lv X sc W) : SndA G fa xa call lv X sc W .nop := by
  refine ⟨fun _ h => (nomatch h), fun _ h => (nomatch h), fun _ _ _ h => (nomatch h), fun _ h => (nomatch h), fun _ h => (nomatch h), fun _ h => (nomatch h), fun _ _ h => (nomatch h), fun x hx => ?_, fun x hx => ?_⟩
  · cases x with
    | none => exact PO.imp po_none fun σ H Q ⟨B, F, e, r, q⟩ => q F H (Le.refl F) r
    | some _ => cases hx
  · cases x with
    | nil => exact PTs.imp pts_nil fun σ H Q ⟨B, F, e, r, q⟩ => q F H (Le.refl F) r
    | cons _ _ => cases hx
theorem snd_lst (g : GoodE G fa xa call k lv X sc W) {xs : SE} (C : SndA G fa xa call lv X sc W xs) : SndA G fa xa call lv X sc W (.lst xs) := by
  refine Snd.ofPE (fun x ok hx => ?_) (fun x ok hx => by cases x <;> first | rfl | cases hx)
  cases x <;> try (cases hx)
  rename_i es p
  refine PE.imp (pe_lst (C.es es hx)) fun σ H Q ⟨B, F, e, r, q⟩ => reads r q fun ds bs e1 F1 H1 vs l1 r1 bv hd q1 => ?_
  split at q1
  · rename_i hl
    obtain ⟨F2, l2, r2, dr⟩ := SR.frzBs r1 bv hd
    have z : ds.length ≤ sizeLine := of_decide_eq_true hl
    refine ⟨by rw [← DRs.length dr]; exact z, fun p hp => (Fin.le (l1.trans l2) q1).new r2 hp ?_⟩
    simp only [OR]
    exact ⟨_, rfl, dr⟩
  · exact q1.elim
theorem snd_tup (g : GoodE G fa xa call k lv X sc W) {xs : SE} (C : SndA G fa xa call lv X sc W xs) : SndA G fa xa call lv X sc W (.tup xs) := by
  refine Snd.ofPE (fun x ok hx => ?_) (fun x ok hx => by cases x <;> first | rfl | cases hx)
  cases x <;> try (cases hx)
  rename_i es n p
  refine PE.imp (pe_tup (C.es es hx)) fun σ H Q ⟨B, F, e, r, q⟩ => reads r q fun ds bs e1 F1 H1 vs l1 r1 bv hd q1 => ?_
  split at q1
  · rename_i hl
    obtain ⟨F2, l2, r2, dr⟩ := SR.frzBs r1 bv hd
    have z : ds.length ≤ sizeLine := of_decide_eq_true hl
    refine ⟨by rw [← DRs.length dr]; exact z, fun p hp => (Fin.le (l1.trans l2) q1).newT r2 hp ?_⟩
    simp only [OR]
    exact ⟨_, rfl, dr⟩
  · exact q1.elim
theorem bi_glob (g : GoodE G fa xa call k lv X sc W) {x : Str} (h : x ∈ blts) : X.mg x = none := g.facts.free x h
end
end EV
/-! Expressions, node by node: chains, and, or, not, a if c else b, slices. -/
namespace EV
open PySem L2
section
variable {G : Cfg} {fa xa : Nat → Addr} {call : Nat → List Sl → FR} {k : Nat} {lv : Bool} {X : Cx} {sc : Scope} {W : WX}
def isBl (r : R (D × Bool)) : Prop := match r with
  | .ok y _ => ∃ b, y = (.bl b, false)
  | _ => True
theorem isBl_bind {α : Type} {r : R α} {k : α → Ev → R (D × Bool)} (h : ∀ a e, isBl (k a e)) : isBl (r.bind k) := by
  cases r with
  | ok a e => exact h a e
  | er c e => exact True.intro
  | st => exact True.intro
theorem isBl_bl2 {o : Option Bool} {e : Ev} : isBl (bl2 o e) := by
  cases o with
  | none => exact True.intro
  | some b => exact ⟨b, rfl⟩
theorem testT {f : Ev → R (D × Bool)} {x : Expr} {t : TE} (h : PT X x (tTest t)) (rd : ∀ σ H Q, rF X.K fa xa W f σ H Q → t σ H Q) (hb : ∀ e, isBl (f e)) : PT X x (rT X.K fa xa W (ofF f).t) := by
  refine PT.imp h fun σ H Q ⟨B, F, e, r, q⟩ => ?_
  have q' : XP X.K fa xa W B F σ ((f e).bind fun x e1 => R.of (truD x.1) e1) _ := q
  refine rd _ _ _ ⟨B, F, e, r, (q'.run (Le.refl F)).imp fun y e1 hy q1 F1 H1 v l1 r1 fv => ?_⟩
  obtain ⟨k, hk, q2⟩ := XP.of q1
  have eb := hb e
  rw [hy] at eb
  obtain ⟨b, eb⟩ := eb
  subst eb
  have fv' := fv.dr
  simp only [DR] at fv'
  have ek : b = k := Option.some.inj hk
  subst ek
  exact ⟨b, fv', q2 F1 H1 l1 r1⟩
theorem XP.eta {α : Type} {K : PySem.W.Frag} {B : Bs} {F : Hp} {σ : L2.St} {r : R α} {ok : α → Ev → Prop} (h : XP K fa xa W B F σ r ok) : XP K fa xa W B F σ (r.bind R.ok) ok := by
  cases r <;> exact h
theorem lastMarks_of {o p : CmpOp} {a b : Expr} (h : okE b = true) : lastMarks [o, p] [a, b] = false := nomark_of h
theorem snd_cmp2 (g : GoodE G fa xa call k lv X sc W) (o p : CmpOp) {a b c : SE} (A : SndA G fa xa call lv X sc W a) (C : SndA G fa xa call lv X sc W b) (E : SndA G fa xa call lv X sc W c) : SndA G fa xa call lv X sc W (.cmp2 o p a b c) := by
  have rd : ∀ (σ : L2.St) (H : Hp) (Q : VK), rF X.K fa xa W (evR G call (.cmp2 o p a b c)).f σ H Q → tChain (rCmpD X.K fa o) (rCmpD X.K fa p) (rB X.K fa xa W (evR G call a).b) (rB X.K fa xa W (evR G call b).b) (rB X.K fa xa W (evR G call c).b) σ H Q := fun σ H Q ⟨B, F, e, r, q⟩ => by
    have q' : XP X.K fa xa W B F σ (((evR G call a).b e).bind _) _ := q
    refine ⟨B, F, e, r, (q'.run (Le.refl F)).imp fun x e1 _ q1 F1 H1 v l1 r1 bv => ⟨B, F1, e1, r1, (q1.run l1).imp fun y e2 _ q2 F2 H2 u l2 r2 bu => ?_⟩⟩
    cases z : x.res e2 with
    | none =>
      rw [z] at q2
      exact q2.elim
    | some d =>
      cases z' : y.res e2 with
      | none =>
        rw [z, z'] at q2
        exact q2.elim
      | some d' =>
        simp only [z, z'] at q2
        cases hk : cmpD o d d' with
        | none =>
          simp only [hk] at q2
          exact q2.elim
        | some kk =>
          refine ⟨B, F2, e2, σ, d, d', .bl kk, false, r2, BV.cr r2 (BV.le l2 bv) z, BV.cr r2 bu z', by simp only [hk]; rfl, fun F3 H3 w l3 r3 fv => ?_⟩
          have fw := fv.dr
          simp only [DR] at fw
          refine ⟨kk, fw, ?_⟩
          cases kk with
          | false =>
            simp only [hk] at q2
            rw [if_neg Bool.false_ne_true]
            exact q2 F3 H3 _ ((l1.trans l2).trans l3) r3 (FV.sh (by simp only [DR]))
          | true =>
            simp only [hk] at q2
            rw [if_pos rfl]
            refine ⟨B, F3, e2, r3, (q2.run ((l1.trans l2).trans l3)).imp fun z3 e3 _ q3 F4 H4 w' l4 r4 bw => ?_⟩
            cases y1 : y.res e3 with
            | none =>
              rw [y1] at q3
              exact q3.elim
            | some d1 =>
              cases y2 : z3.res e3 with
              | none =>
                rw [y1, y2] at q3
                exact q3.elim
              | some d2 =>
                simp only [y1, y2] at q3
                obtain ⟨k2, hk2, q4⟩ := XP.bl2 q3
                exact ⟨B, F4, e3, σ, d1, d2, .bl k2, false, r4, BV.cr r4 (BV.le (l3.trans l4) bu) y1, BV.cr r4 bw y2, by simp only [hk2]; rfl, Fin.le (((l1.trans l2).trans l3).trans l4) q4⟩
  have sp : ∀ {x : Expr} {P : Prop}, (match x with | .Compare l [o', p'] [r, q] _ => decide (o' = o) && decide (p' = p) && (erR G X.N lv a sc).e l && (erR G X.N lv b sc).e r && (erR G X.N lv c sc).e q | _ => false) = true →
      (∀ l r q ps, x = .Compare l [o, p] [r, q] ps → (erR G X.N lv a sc).e l = true → (erR G X.N lv b sc).e r = true → (erR G X.N lv c sc).e q = true → P) → P := fun {x P} hx cc => by
    split at hx
    · rename_i l o' p' r q ps
      obtain ⟨hx, h3⟩ := and2 hx
      obtain ⟨hx, h2⟩ := and2 hx
      obtain ⟨hx, h1⟩ := and2 hx
      obtain ⟨e1, e2⟩ := and2 hx
      have e1 : o' = o := of_decide_eq_true e1
      have e2 : p' = p := of_decide_eq_true e2
      subst e1 e2
      exact cc l r q ps rfl h1 h2 h3
    · cases hx
  refine Snd.ofET (fun x ok hx => sp hx fun l r q ps e1 h1 h2 h3 => ?_) (fun x ok hx => sp hx fun l r q ps e1 h1 h2 h3 => ?_) (fun op vs p hx => nomatch hx)
  · subst e1
    exact PE.imp (pe_chain (op_cmp (fa := fa) (units_ok g) o) (op_cmp (fa := fa) (units_ok g) p) (A.b _ h1) (C.b _ h2) (E.b _ h3) (lastMarks_of (E.ok _ h3))) fun σ H Q h => rd σ H Q h
  · subst e1
    refine testT (pt_chain (op_cmp (fa := fa) (units_ok g) o) (op_cmp (fa := fa) (units_ok g) p) (A.b _ h1) (C.b _ h2) (E.b _ h3) (lastMarks_of (E.ok _ h3))) rd fun e => ?_
    show isBl (R.bind _ _)
    refine isBl_bind fun x e1 => isBl_bind fun y e2 => ?_
    split
    · split
      · refine isBl_bind fun z e3 => ?_
        split
        · exact isBl_bl2
        · exact True.intro
      · exact ⟨false, rfl⟩
      · exact True.intro
    · exact True.intro
/-- and, or -/
theorem snd_and (g : GoodE G fa xa call k lv X sc W) {a b : SE} (A : SndA G fa xa call lv X sc W a) (C : SndA G fa xa call lv X sc W b) : SndA G fa xa call lv X sc W (.and a b) := by
  have pe : ∀ l r rest p, (erR G X.N lv a sc).e l = true → PE X (.BoolOp .And (r :: rest) p) (rF X.K fa xa W (evR G call b).f) → PE X (.BoolOp .And (l :: r :: rest) p) (rF X.K fa xa W (evR G call (.and a b)).f) := fun l r rest p h1 h2 =>
    PE.imp (pe_andT (A.e _ h1) h2) fun σ H Q ⟨B, F, e, rr, q⟩ => by
      have q' : XP X.K fa xa W B F σ (((evR G call a).f e).bind _) _ := q
      refine ⟨B, F, e, rr, (q'.run (Le.refl F)).imp fun x e1 _ q1 F1 H1 v l1 r1 fv => ?_⟩
      cases hk : truD x.1 with
      | none =>
        simp only [hk] at q1
        exact q1.elim
      | some kk =>
        cases kk with
        | true =>
          simp only [hk] at q1
          obtain ⟨F2, l2, r2, d2⟩ := r1.freeze fv
          refine ⟨true, tru_of r2.sub hk (DR.cr r2.sub d2), ?_⟩
          rw [if_pos rfl]
          exact ⟨B, F2, e1, r2, ((XP.eta q1).run (l1.trans l2)).imp fun y e2 _ q2 => Fin.le (l1.trans l2) q2⟩
        | false =>
          simp only [hk] at q1
          obtain ⟨F2, l2, r2, d2⟩ := r1.freeze fv
          refine ⟨false, tru_of r2.sub hk (DR.cr r2.sub d2), ?_⟩
          rw [if_neg Bool.false_ne_true]
          exact q1 F1 H1 v l1 r1 fv
  have pw : ∀ l r rest p, (erR G X.N lv a sc).e l = true → PW X (.BoolOp .And (r :: rest) p) (rT X.K fa xa W (evR G call b).t) → PW X (.BoolOp .And (l :: r :: rest) p) (rT X.K fa xa W (evR G call (.and a b)).t) := fun l r rest p h1 h2 =>
    PW.imp (pw_and (A.t _ h1) h2) fun σ H Q ⟨B, F, e, rr, q⟩ => by
      have q' : XP X.K fa xa W B F σ (((evR G call a).t e).bind _) _ := q
      refine ⟨B, F, e, rr, (q'.run (Le.refl F)).imp fun x e1 _ q1 F1 H1 l1 r1 => ?_⟩
      cases x with
      | true =>
        rw [if_pos rfl]
        exact ⟨B, F1, e1, r1, ((XP.eta q1).run l1).imp fun y e2 _ q2 F2 H2 l2 r2 => q2 F2 H2 (l1.trans l2) r2⟩
      | false =>
        rw [if_neg Bool.false_ne_true]
        exact q1 F1 H1 l1 r1
  have both : ∀ {x : Expr}, (match x with
    | .BoolOp .And [l, r] _ => (erR G X.N lv a sc).e l && (erR G X.N lv b sc).e r
    | .BoolOp .And (l :: r :: q :: rest) p => (erR G X.N lv a sc).e l && (erR G X.N lv b sc).e (.BoolOp .And (r :: q :: rest) p)
    | _ => false) = true → PE X x (rF X.K fa xa W (evR G call (.and a b)).f) ∧ PW X x (rT X.K fa xa W (evR G call (.and a b)).t) := fun {x} hx => by
    split at hx
    · rename_i l r p
      obtain ⟨h1, h2⟩ := and2 hx
      exact ⟨pe l r [] p h1 (pe_one (C.e _ h2)), pw l r [] p h1 (pw_and1 (C.t _ h2))⟩
    · rename_i l r q rest p
      obtain ⟨h1, h2⟩ := and2 hx
      exact ⟨pe l r _ p h1 (C.e _ h2), pw l r _ p h1 (C.w _ _ _ h2)⟩
    · cases hx
  exact Snd.ofET (fun x ok hx => (both hx).1) (fun x ok hx => (both hx).2.pt) fun op vs p hx => (both hx).2
theorem snd_or (g : GoodE G fa xa call k lv X sc W) {a b : SE} (A : SndA G fa xa call lv X sc W a) (C : SndA G fa xa call lv X sc W b) : SndA G fa xa call lv X sc W (.or a b) := by
  have pe : ∀ l r rest p, (erR G X.N lv a sc).e l = true → PE X (.BoolOp .Or (r :: rest) p) (rF X.K fa xa W (evR G call b).f) → PE X (.BoolOp .Or (l :: r :: rest) p) (rF X.K fa xa W (evR G call (.or a b)).f) := fun l r rest p h1 h2 =>
    PE.imp (pe_orT (A.e _ h1) h2) fun σ H Q ⟨B, F, e, rr, q⟩ => by
      have q' : XP X.K fa xa W B F σ (((evR G call a).f e).bind _) _ := q
      refine ⟨B, F, e, rr, (q'.run (Le.refl F)).imp fun x e1 _ q1 F1 H1 v l1 r1 fv => ?_⟩
      cases hk : truD x.1 with
      | none =>
        simp only [hk] at q1
        exact q1.elim
      | some kk =>
        cases kk with
        | false =>
          simp only [hk] at q1
          obtain ⟨F2, l2, r2, d2⟩ := r1.freeze fv
          refine ⟨false, tru_of r2.sub hk (DR.cr r2.sub d2), ?_⟩
          rw [if_neg Bool.false_ne_true]
          exact ⟨B, F2, e1, r2, ((XP.eta q1).run (l1.trans l2)).imp fun y e2 _ q2 => Fin.le (l1.trans l2) q2⟩
        | true =>
          simp only [hk] at q1
          obtain ⟨F2, l2, r2, d2⟩ := r1.freeze fv
          refine ⟨true, tru_of r2.sub hk (DR.cr r2.sub d2), ?_⟩
          rw [if_pos rfl]
          exact q1 F1 H1 v l1 r1 fv
  have pw : ∀ l r rest p, (erR G X.N lv a sc).e l = true → PW X (.BoolOp .Or (r :: rest) p) (rT X.K fa xa W (evR G call b).t) → PW X (.BoolOp .Or (l :: r :: rest) p) (rT X.K fa xa W (evR G call (.or a b)).t) := fun l r rest p h1 h2 =>
    PW.imp (pw_or (A.t _ h1) h2) fun σ H Q ⟨B, F, e, rr, q⟩ => by
      have q' : XP X.K fa xa W B F σ (((evR G call a).t e).bind _) _ := q
      refine ⟨B, F, e, rr, (q'.run (Le.refl F)).imp fun x e1 _ q1 F1 H1 l1 r1 => ?_⟩
      cases x with
      | false =>
        rw [if_neg Bool.false_ne_true]
        exact ⟨B, F1, e1, r1, ((XP.eta q1).run l1).imp fun y e2 _ q2 F2 H2 l2 r2 => q2 F2 H2 (l1.trans l2) r2⟩
      | true =>
        rw [if_pos rfl]
        exact q1 F1 H1 l1 r1
  have both : ∀ {x : Expr}, (match x with
    | .BoolOp .Or [l, r] _ => (erR G X.N lv a sc).e l && (erR G X.N lv b sc).e r
    | .BoolOp .Or (l :: r :: q :: rest) p => (erR G X.N lv a sc).e l && (erR G X.N lv b sc).e (.BoolOp .Or (r :: q :: rest) p)
    | _ => false) = true → PE X x (rF X.K fa xa W (evR G call (.or a b)).f) ∧ PW X x (rT X.K fa xa W (evR G call (.or a b)).t) := fun {x} hx => by
    split at hx
    · rename_i l r p
      obtain ⟨h1, h2⟩ := and2 hx
      exact ⟨pe l r [] p h1 (pe_one (C.e _ h2)), pw l r [] p h1 (pw_or1 (C.t _ h2))⟩
    · rename_i l r q rest p
      obtain ⟨h1, h2⟩ := and2 hx
      exact ⟨pe l r _ p h1 (C.e _ h2), pw l r _ p h1 (C.w _ _ _ h2)⟩
    · cases hx
  exact Snd.ofET (fun x ok hx => (both hx).1) (fun x ok hx => (both hx).2.pt) fun op vs p hx => (both hx).2
theorem snd_not (g : GoodE G fa xa call k lv X sc W) {a : SE} (A : SndA G fa xa call lv X sc W a) : SndA G fa xa call lv X sc W (.not a) := by
  refine Snd.ofET (fun x ok hx => ?_) (fun x ok hx => ?_) fun op vs p hx => nomatch hx
  · split at hx
    · rename_i l p
      refine PE.imp (pe_notT (A.b _ hx)) fun σ H Q ⟨B, F, e, r, q⟩ => read1 r q fun d e1 F1 H1 x l1 r1 cx q1 => ?_
      obtain ⟨k, hk, q2⟩ := XP.bl2 q1
      cases ht : truD d with
      | none =>
        rw [ht] at hk
        cases hk
      | some t =>
        rw [ht] at hk
        cases hk
        exact ⟨t, tru_of r1.sub ht cx, (Fin.le l1 q2).flat r1 (by simp only [DR])⟩
    · cases hx
  · split at hx
    · rename_i l p
      refine PT.imp (pt_not (A.t _ hx)) fun σ H Q ⟨B, F, e, r, q⟩ => ?_
      have q' : XP X.K fa xa W B F σ (((evR G call a).t e).bind _) _ := q
      exact ⟨B, F, e, r, (q'.run (Le.refl F)).imp fun x e1 _ q1 F1 H1 l1 r1 => q1 F1 H1 l1 r1⟩
    · cases hx
theorem pt_ife {c a b : Expr} {pos : Pos} {tc ta tb : TT} (hc : PT X c tc) (ha : PT X a ta) (hb : PT X b tb) : PT X (.IfExp c a b pos) (fun σ H Q => tc σ H fun d H1 => if d = true then ta σ H1 Q else tb σ H1 Q) := by
  refine ⟨fun pins s σ H Q I h => ?_⟩
  refine PyProof.Rows.isTrue_IfExp (thn (hc.run pins s σ H _ I h) fun d s1 ⟨H1, I1, q1⟩ => ?_)
  cases d with
  | true => exact ha.run pins s1 σ H1 Q I1 q1
  | false => exact hb.run pins s1 σ H1 Q I1 q1
theorem snd_ife (g : GoodE G fa xa call k lv X sc W) {c a b : SE} (E : SndA G fa xa call lv X sc W c) (A : SndA G fa xa call lv X sc W a) (C : SndA G fa xa call lv X sc W b) : SndA G fa xa call lv X sc W (.ife c a b) := by
  refine Snd.ofET (fun x ok hx => ?_) (fun x ok hx => ?_) fun op vs p hx => nomatch hx
  · split at hx
    · rename_i t l r p
      obtain ⟨h1, h2, h3⟩ := and3 hx
      refine PE.imp (pe_ifExp (E.t _ h1) (A.e _ h2) (C.e _ h3)) fun σ H Q ⟨B, F, e, r, q⟩ => ?_
      have q' : XP X.K fa xa W B F σ (((evR G call c).t e).bind _) _ := q
      refine ⟨B, F, e, r, (q'.run (Le.refl F)).imp fun x e1 _ q1 F1 H1 l1 r1 => ?_⟩
      cases x with
      | true =>
        rw [if_pos rfl]
        exact ⟨B, F1, e1, r1, ((XP.eta q1).run l1).imp fun y e2 _ q2 => Fin.le l1 q2⟩
      | false =>
        rw [if_neg Bool.false_ne_true]
        exact ⟨B, F1, e1, r1, ((XP.eta q1).run l1).imp fun y e2 _ q2 => Fin.le l1 q2⟩
    · cases hx
  · split at hx
    · rename_i t l r p
      obtain ⟨h1, h2, h3⟩ := and3 hx
      refine PT.imp (pt_ife (E.t _ h1) (A.t _ h2) (C.t _ h3)) fun σ H Q ⟨B, F, e, r, q⟩ => ?_
      have q' : XP X.K fa xa W B F σ (((evR G call c).t e).bind _) _ := q
      refine ⟨B, F, e, r, (q'.run (Le.refl F)).imp fun x e1 _ q1 F1 H1 l1 r1 => ?_⟩
      cases x with
      | true =>
        rw [if_pos rfl]
        exact ⟨B, F1, e1, r1, ((XP.eta q1).run l1).imp fun y e2 _ q2 F2 H2 l2 r2 => q2 F2 H2 (l1.trans l2) r2⟩
      | false =>
        rw [if_neg Bool.false_ne_true]
        exact ⟨B, F1, e1, r1, ((XP.eta q1).run l1).imp fun y e2 _ q2 F2 H2 l2 r2 => q2 F2 H2 (l1.trans l2) r2⟩
    · cases hx
theorem snd_sl (g : GoodE G fa xa call k lv X sc W) {a lo hi : SE} (A : SndA G fa xa call lv X sc W a) (C : SndA G fa xa call lv X sc W lo) (E : SndA G fa xa call lv X sc W hi) : SndA G fa xa call lv X sc W (.sl a lo hi) := by
  refine Snd.ofPE (fun x ok hx => ?_) (fun x ok hx => by cases x <;> first | rfl | cases hx)
  split at hx
  · rename_i l l1 h1 p p'
    obtain ⟨g1, g2, g3⟩ := and3 hx
    refine PE.imp (pe_slice (sl_ok (fa := fa)) (A.b _ g1) (C.o _ g2) (E.o _ g3)) fun σ H Q ⟨B, F, e, r, q⟩ => ?_
    have q' : XP X.K fa xa W B F σ (((evR G call a).b e).bind _) _ := q
    refine ⟨B, F, e, r, (q'.run (Le.refl F)).imp fun x e1 _ q1 F1 H1 v l1 r1 bv => ⟨B, F1, e1, r1, (q1.run l1).imp fun o e2 _ q2 F2 H2 l2 r2 => ⟨B, F2, e2, r2, (q2.run (l1.trans l2)).imp fun o' e3 _ q3 F3 H3 l3 r3 => ?_⟩⟩⟩
    cases z : x.res e3 with
    | none =>
      rw [z] at q3
      exact q3.elim
    | some d =>
      rw [z] at q3
      obtain ⟨y, hy, q4⟩ := XP.of q3
      exact ⟨B, F3, e3, σ, d, y.1, y.2, r3, BV.cr r3 (BV.le (l2.trans l3) bv) z, hy, Fin.le ((l1.trans l2).trans l3) q4⟩
  · cases hx
end
end EV
/-! Expressions, node by node: calls. -/
namespace EV
open PySem L2
theorem eF_ok {f : Expr → Bool} {x : Expr} (h : (eF f).e x = true) : okE x = true := (Bool.and_eq_true_iff.mp h).1
theorem er_ok {G : Cfg} {N : List Str} {lv : Bool} {sc : Scope} {a : SE} {x : Expr} (h : (erR G N lv a sc).e x = true) : okE x = true := by
  cases a <;> first
    | exact eF_ok h
    | (cases h)
theorem es_ok {G : Cfg} {N : List Str} {lv : Bool} {sc : Scope} : ∀ (a : SE) (xs : List Expr), (erR G N lv a sc).es xs = true → ∀ x ∈ xs, okE x = true
  | .nil, xs, h => by
    cases xs with
    | nil => exact fun x hx => nomatch hx
    | cons _ _ => cases h
  | .cons a r, xs, h => by
    cases xs with
    | nil => cases h
    | cons y ys =>
      obtain ⟨h1, h2⟩ := Bool.and_eq_true_iff.mp (show ((erR G N lv a sc).e y && (erR G N lv r sc).es ys) = true from h)
      intro x hx
      rcases List.mem_cons.mp hx with z | z
      · subst z
        exact er_ok h1
      · exact es_ok r ys h2 x z
  | .var _, xs, h | .lit _, xs, h | .glo _, xs, h | .fnv _, xs, h | .bin _ _ _, xs, h | .una _ _, xs, h | .cmp _ _ _, xs, h | .cmp2 _ _ _ _ _, xs, h | .and _ _, xs, h | .or _ _, xs, h | .not _, xs, h | .ife _ _ _, xs, h
  | .lst _, xs, h | .tup _, xs, h | .ix _ _, xs, h | .sl _ _ _, xs, h | .call _ _, xs, h | .callv _ _, xs, h | .bi _ _, xs, h | .isi _ _, xs, h | .me _ _ _, xs, h | .mu _ _ _, xs, h | .comp _ _ _ _ _, xs, h | .rng1 _, xs, h | .rng2 _ _, xs, h | .nop, xs, h => nomatch h
theorem es_nil {G : Cfg} {N : List Str} {lv : Bool} {sc : Scope} {call : Nat → List Sl → FR} {a : SE} (h : (erR G N lv a sc).es [] = true) (e : Ev) : (evR G call a).bs e = .ok [] e := by
  cases a <;> first
    | rfl
    | (cases h)
theorem star_all {env : Env} : ∀ {xs : List Expr}, (∀ x ∈ xs, okE x = true) → starEach xs env = xs.map fun x => (false, eval x env)
  | [], _ => rfl
  | x :: xs, h => by
    rw [starE (h x List.mem_cons_self), star_all fun y hy => h y (List.mem_cons_of_mem _ hy)] <;> rfl
theorem backTo_plain {env : Env} {pos : Pos} : ∀ xs : List Expr, (backTo pos (xs.map fun x => (false, eval x env))).any (·.1) = false
  | [] => rfl
  | x :: xs => backTo_plain xs
theorem backTo_all {env : Env} {pos : Pos} : ∀ xs : List Expr, (backTo pos (xs.map fun x => (false, eval x env))).all (fun x => !x.1) = true
  | [] => rfl
  | x :: xs => backTo_all xs
section
variable {G : Cfg} {fa xa : Nat → Addr} {call : Nat → List Sl → FR} {k : Nat} {lv : Bool} {X : Cx} {sc : Scope} {W : WX}
theorem args_hs {env : Env} {x : Expr} {xs : List Expr} (h : ∀ y ∈ x :: xs, okE y = true) : starEach (x :: xs) env = (false, eval x env) :: starEach xs env := starE (h x List.mem_cons_self)
theorem args_pl {env : Env} {pos : Pos} {x : Expr} {xs : List Expr} (h : ∀ y ∈ x :: xs, okE y = true) : (backTo pos (starEach xs env)).any (·.1) = false := by
  rw [star_all fun y hy => h y (List.mem_cons_of_mem _ hy)]
  exact backTo_plain xs
theorem goCall_ok {f : Nat} {bs : List Bor} {e : Ev} {B : Bs} {F0 F : Hp} {σ : L2.St} {H : Hp} {vs : List V} {Q : VK} (g : Facts X.K X.mg G fa xa) (r : SR X.K fa B F e σ H) (l : Le F0 F) (bv : BVs X.K fa F σ bs vs)
    (q : XP X.K fa xa W B F0 σ (goCall G call f bs e) fun x e' => Fin X.K fa B F0 e' σ x.1 x.2 Q) : ∃ fi, G.fns[f]? = some fi ∧ spFn X.K fa xa fi call f vs H Q (WE W σ) := by
  unfold goCall at q
  cases z : G.fns[f]? with
  | none =>
    rw [z] at q
    exact q.elim
  | some fi =>
    simp only [z] at q
    refine ⟨fi, rfl, ?_⟩
    split at q
    · rename_i hn
      exact call_ok r l bv hn (g.fn f fi z).2 q
    · exact q.elim
theorem snd_call (g : GoodE G fa xa call k lv X sc W) (f : Nat) {xs : SE} (C : SndA G fa xa call lv X sc W xs) : SndA G fa xa call lv X sc W (.call f xs) := by
  refine Snd.ofPE (fun x ok hx => ?_) (fun x ok hx => by replace hx := (and2 hx).2; cases x <;> first | rfl | cases hx)
  have hlv := (and2 hx).1
  replace hx := (and2 hx).2
  split at hx
  · rename_i x p es pos
    obtain ⟨hx, h4⟩ := and2 hx
    obtain ⟨h1, h2, h3⟩ := and3 hx
    cases z : G.fns[f]? with
    | none =>
      rw [z] at h1
      cases h1
    | some fi =>
      rw [z] at h1
      have e1 : fi.name = x := of_decide_eq_true h1
      subst e1
      obtain ⟨fd, FO, hk, hb⟩ := g.calls f fi z
      have rd : ∀ (σ : L2.St) (H : Hp) (Q : VK), rF X.K fa xa W (evR G call (.call f xs)).f σ H Q → tCallS (spFn X.K fa xa fi call f) (WE W) (rBs X.K fa xa W (evR G call xs).bs) σ H Q := fun σ H Q ⟨B, F, e, r, q⟩ => by
        have q' : XP X.K fa xa W B F σ (((evR G call xs).bs e).bind fun bs e1 => goCall G call f bs e1) _ := q
        refine ⟨B, F, e, r, (q'.run (Le.refl F)).imp fun bs e1 _ q1 F1 H1 vs l1 r1 bv => ?_⟩
        obtain ⟨fi', z', sp⟩ := goCall_ok g.facts r1 l1 bv q1
        rw [z] at z'
        cases z'
        exact sp
      cases es with
      | nil =>
        refine PE.imp ⟨fun pins s σ H Q I h => ?_⟩ rd
        have h' : spFn X.K fa xa fi call f [] H Q (WE W σ) := by
          obtain ⟨B, F, e, r, q⟩ := h
          rw [es_nil h4] at q
          exact q F H [] (Le.refl F) r (by simp only [BVs])
        refine wpAny_Call_Name_kw (ld_glob I (gl_ok g h2) (g.facts.fn f fi z).1 ?_ (nm_ok h3).1)
        exact PySem.W.callWith_K0 I.kIn hk (run_fnS (us := []) FO (g.room hlv) hb (passAt g.tk σ) I .nil h')
      | cons y ys =>
        have ok := es_ok xs _ h4
        exact PE.imp (pe_callS FO (g.room hlv) (gl_ok g h2) (g.facts.fn f fi z).1 hk hb (fun σ => passAt g.tk σ) (C.es _ h4) (nm_ok h3).1 (args_hs ok) (args_pl ok)) rd
  · cases hx
theorem pe_callvS (g : GoodE G fa xa call k lv X sc W) (hlv : lv = true) {i : Nat} {x : Str} {p pos : Pos} {y : Expr} {ys : List Expr} {t : TA} (hN : X.N[i]? = some x) (hv : Vis X.env.scope x) (hdb : (x == ("__debug__" : Str)) = false) (hcd : (x == ("__classdict__" : Str)) = false) (ok : ∀ z ∈ y :: ys, okE z = true) (ha : PA X (y :: ys) t) :
    PE X (.Call (.Name x p) (y :: ys) [] pos) (fun σ H Q => ∃ f fi, σ[i]? = some (some (.ref (fa f))) ∧ G.fns[f]? = some fi ∧ t σ H fun vs H1 => spFn X.K fa xa fi call f vs H1 Q (WE W σ)) := by
  refine ⟨fun pins s σ H Q I h => ?_⟩
  obtain ⟨f, fi, hs, z, ht⟩ := h
  obtain ⟨fd, FO, hk, hb⟩ := g.calls f fi z
  refine wpAny_Call_Name_kw (thn ((pe_var (pos := p) hN hv hdb hcd).run pins s σ H (fun v H1 => v = .ref (fa f) ∧ H1 = H) I ⟨.ref (fa f), hs, rfl, rfl⟩) fun u s1 ⟨v, H1, I1, r1, q1⟩ => ?_)
  obtain ⟨rfl, rfl⟩ := q1
  cases r1
  refine PySem.W.callWith_K (h₀ := X.base) I.ok.mod.kin hk (thn (ha.run pos pins s1 σ _ _ I1 ht) fun us s2 ⟨vs, H2, I2, r, q⟩ => ⟨I2.kIn, ?_⟩) (args_hs ok) (args_pl ok)
  exact run_fnS FO (g.room hlv) hb (passAt g.tk σ) I2 r q
theorem snd_callv (g : GoodE G fa xa call k lv X sc W) (i : Nat) {xs : SE} (C : SndA G fa xa call lv X sc W xs) : SndA G fa xa call lv X sc W (.callv i xs) := by
  refine Snd.ofPE (fun x ok hx => ?_) (fun x ok hx => by replace hx := (and2 hx).2; cases x <;> first | rfl | cases hx)
  have hlv := (and2 hx).1
  replace hx := (and2 hx).2
  split at hx
  · rename_i x p y ys pos
    obtain ⟨hx, h4⟩ := and2 hx
    obtain ⟨h1, h2, h3⟩ := and3 hx
    obtain ⟨n1, n2, _⟩ := nm_ok h3
    refine PE.imp (pe_callvS g hlv (of_decide_eq_true h1) (vis_ok g h2) n1 n2 (es_ok xs _ h4) (C.es _ h4)) fun σ H Q ⟨B, F, e, r, q⟩ => ?_
    have q' : XP X.K fa xa W B F σ (match e.getD i .no with
      | .sh (.fn f) => match G.fns[f]? with
        | some _ => ((evR G call xs).bs e).bind fun bs e1 => goCall G call f bs e1
        | none => .st
      | _ => .st) _ := q
    split at q'
    · rename_i f hs
      obtain ⟨w, g1, v, g2, g3⟩ := r.at (getD_sh hs)
      simp only [DR] at g3
      subst g2 g3
      split at q'
      · rename_i fi z
        refine ⟨f, fi, g1, z, B, F, e, r, (q'.run (Le.refl F)).imp fun bs e1 _ q1 F1 H1 vs l1 r1 bv => ?_⟩
        obtain ⟨fi', z', sp⟩ := goCall_ok g.facts r1 l1 bv q1
        rw [z] at z'
        cases z'
        exact sp
      · exact q'.elim
    · exact q'.elim
  · cases hx
theorem boot_bi (b : Bi) : bootBuiltins (biNm b) = some (biV b) ∧ biNm b ≠ "__name__" ∧ (biNm b == ("__debug__" : Str)) = false ∧ biNm b ∈ blts := by
  cases b <;> exact ⟨by decide +kernel, by decide, by decide, by decide⟩
theorem biV_cases (b : Bi) : (∃ id, biV b = .builtin id) ∨ ∃ T, biV b = .type T := by
  cases b <;> first
    | exact .inl ⟨_, rfl⟩
    | exact .inr ⟨_, rfl⟩
theorem snd_bi (g : GoodE G fa xa call k lv X sc W) (b : Bi) {xs : SE} (C : SndA G fa xa call lv X sc W xs) : SndA G fa xa call lv X sc W (.bi b xs) := by
  refine Snd.ofPE (fun x ok hx => ?_) (fun x ok hx => by replace hx := (and2 hx).2; cases x <;> first | rfl | cases hx)
  have hlv := (and2 hx).1
  replace hx := (and2 hx).2
  split at hx
  · rename_i x p y ys pos
    obtain ⟨h1, h2, h3⟩ := and3 hx
    have e1 : x = biNm b := of_decide_eq_true h1
    subst e1
    obtain ⟨b1, b2, b3, b4⟩ := boot_bi b
    have ok := es_ok xs _ h3
    have rd : ∀ (σ : L2.St) (H : Hp) (Q : VK), rF X.K fa xa W (evR G call (.bi b xs)).f σ H Q → tCB (rBi X.K fa b) (rBs X.K fa xa W (evR G call xs).bs) σ H Q := fun σ H Q ⟨B, F, e, r, q⟩ => reads r q fun ds bs e1 F1 H1 vs l1 r1 bv hd q1 => by
      obtain ⟨z, hz, q2⟩ := XP.of q1
      exact ⟨B, F1, e1, σ, ds, z.1, z.2, r1, BVs.crs r1 bv hd, hz, Fin.le l1 q2⟩
    have hc := bi_ok (fa := fa) (g.calm hlv) b
    rcases biV_cases b with ⟨id, hv⟩ | ⟨T, hv⟩
    · rw [hv] at hc b1
      exact PE.imp (pe_callB hc (gl_ok g h2) (g.facts.free _ b4) b1 (C.es _ h3) b2 b3 (args_hs ok) (args_pl ok)) rd
    · rw [hv] at hc b1
      exact PE.imp (pe_callTy hc (gl_ok g h2) (g.facts.free _ b4) b1 (C.es _ h3) b2 b3 (args_hs ok) (args_pl ok)) rd
  · cases hx
theorem boot_ty (t : Ty) : bootBuiltins (tyNm t) = some (.type (tyN t)) ∧ tyNm t ≠ "__name__" ∧ (tyNm t == ("__debug__" : Str)) = false ∧ tyNm t ∈ blts := by
  cases t <;> exact ⟨by decide +kernel, by decide, by decide, by decide⟩
theorem boot_isi : bootBuiltins "isinstance" = some (.builtin "isinstance") := by decide +kernel
theorem snd_isi (g : GoodE G fa xa call k lv X sc W) (t : Ty) {a : SE} (A : SndA G fa xa call lv X sc W a) : SndA G fa xa call lv X sc W (.isi a t) := by
  refine Snd.ofPE (fun x ok hx => ?_) (fun x ok hx => by cases x <;> first | rfl | cases hx)
  split at hx
  · rename_i x p l y p' pos
    obtain ⟨hx, h5⟩ := and2 hx
    obtain ⟨hx, h4⟩ := and2 hx
    obtain ⟨h1, h2, h3⟩ := and3 hx
    have e1 : x = "isinstance" := of_decide_eq_true h1
    have e2 : y = tyNm t := of_decide_eq_true h3
    subst e1 e2
    obtain ⟨b1, b2, b3, b4⟩ := boot_ty t
    have hy : PE X (.Name (tyNm t) p') (tC (.ty (tyN t))) := pe_bltn (gl_ok g h4) (g.facts.free _ b4) b1 rfl b2 b3
    have ha := pa_cons (A.b _ h5) (pa_cons hy pa_nil (starE (x := .Name (tyNm t) p') rfl)) (starE (A.ok _ h5))
    refine PE.imp (pe_callB (isi_ok (fa := fa) t) (gl_ok g h2) (g.facts.free _ (by decide)) boot_isi ha (by decide) (by decide) (starE (A.ok _ h5)) rfl) fun σ H Q ⟨B, F, e, r, q⟩ => read1 r q fun d e1 F1 H1 x l1 r1 cx q1 => ?_
    obtain ⟨kk, hk, q2⟩ := XP.bl2 q1
    exact ⟨B, F1, e1, σ, d, x, kk, rfl, r1, cx, hk, Fin.le l1 q2⟩
  · cases hx
theorem me_facts (m : Me) : PlainAttrs (meT m) ∧ Slot (meT m) (meNm m) (meId m) ∧ typeOf (.builtin (meId m)) = pure (.type "method_descriptor") := by
  cases m
  exact ⟨PySem.F.plainAttrs_str, PySem.F.slot_str_join, PySem.F.type_str_join⟩
theorem mu_facts (m : Mu) : PlainAttrs "list" ∧ Slot "list" (muNm m) (muId m) ∧ typeOf (.builtin (muId m)) = pure (.type "method_descriptor") := by
  cases m
  · exact ⟨PySem.F.plainAttrs_list, slot_list_append, type_list_append⟩
  · exact ⟨PySem.F.plainAttrs_list, PySem.F.slot_list_pop, PySem.F.type_list_pop⟩
theorem few_ok {env : Env} {pos : Pos} {y : Expr} {ys : List Expr} (ok : ∀ z ∈ y :: ys, okE z = true) (h : ys.length < 20) : ((backTo pos (starEach (y :: ys) env)).all (fun x => !x.1) && (backToKw pos (keywordEach [] env)).all (fun x => x.1.isSome)
      && decide ((y :: ys).length + ([] : List Keyword).length + (if ([] : List Keyword).isEmpty then 0 else 1) < 30)) = true := by
  rw [star_all ok, backTo_all]
  show (true && true && decide _) = true
  rw [Bool.true_and, Bool.true_and]
  refine decide_eq_true ?_
  show ys.length + 1 + 0 + 0 < 30
  omega
theorem snd_me (g : GoodE G fa xa call k lv X sc W) (m : Me) {a xs : SE} (A : SndA G fa xa call lv X sc W a) (C : SndA G fa xa call lv X sc W xs) : SndA G fa xa call lv X sc W (.me m a xs) := by
  refine Snd.ofPE (fun x ok hx => ?_) (fun x ok hx => by cases x <;> first | rfl | cases hx)
  split at hx
  · rename_i o at_ ap y ys cp
    obtain ⟨hx, h6⟩ := and2 hx
    obtain ⟨hx, h5⟩ := and2 hx
    obtain ⟨hx, h4⟩ := and2 hx
    obtain ⟨h1, h2, h3⟩ := and3 hx
    have e1 : at_ = meNm m := of_decide_eq_true h1
    subst e1
    obtain ⟨m1, m2, m3⟩ := me_facts m
    have ok := es_ok xs _ h5
    refine PE.imp (pe_bm m1 m2 m3 (me_ok (fa := fa) m) (A.b _ h4) (C.es _ h5) (base_of h3) (few_ok ok (of_decide_eq_true h6)) h2 (args_hs ok) (args_pl ok)) fun σ H Q ⟨B, F, e, r, q⟩ => ?_
    have q' : XP X.K fa xa W B F σ (((evR G call a).b e).bind _) _ := q
    refine ⟨B, F, e, r, (q'.run (Le.refl F)).imp fun x e1 _ q1 F1 H1 v l1 r1 bv => ?_⟩
    cases z : x.res e1 with
    | none =>
      simp only [z] at q1
      exact q1.elim
    | some d0 =>
      simp only [z] at q1
      split at q1
      · rename_i ht
        refine ⟨meTy_ok ht (BV.cr r1 bv z), B, F1, e1, r1, (q1.run l1).imp fun bs e2 _ q2 F2 H2 vs l2 r2 bvs => ?_⟩
        split at q2
        · rename_i d ds z1 z2
          obtain ⟨y, hy, q3⟩ := XP.of q2
          exact ⟨B, F2, e2, σ, d, ds, y.1, y.2, r2, BV.cr r2 (BV.le l2 bv) z1, BVs.crs r2 bvs z2, hy, Fin.le (l1.trans l2) q3⟩
        · exact q2.elim
      · exact q1.elim
  · cases hx
theorem snd_mu (g : GoodE G fa xa call k lv X sc W) (m : Mu) (i : Nat) {xs : SE} (C : SndA G fa xa call lv X sc W xs) : SndA G fa xa call lv X sc W (.mu m i xs) := by
  refine Snd.ofPE (fun x ok hx => ?_) (fun x ok hx => by cases x <;> first | rfl | cases hx)
  split at hx
  · rename_i x p at_ ap es cp
    obtain ⟨hx, h5⟩ := and2 hx
    obtain ⟨hx, h4⟩ := and2 hx
    obtain ⟨h1, h2, h3⟩ := and3 hx
    have e1 : at_ = muNm m := of_decide_eq_true h1
    subst e1
    obtain ⟨m1, m2, m3⟩ := mu_facts m
    have ok := es_ok xs _ h4
    have hv : PE X (.Name x p) (tVar i) := slot_ok g h3
    have rd : ∀ {σ : L2.St} {H : Hp} {Q : VK}, rF X.K fa xa W (evR G call (.mu m i xs)).f σ H Q → ∃ v, σ[i]? = some (some v) ∧ tyV X.K "list" v H ∧ rBs X.K fa xa W (evR G call xs).bs σ H fun vs H1 => rMu X.K fa m i v vs H1 Q := fun {σ H Q} ⟨B, F, e, r, q⟩ => by
      have q' : XP X.K fa xa W B F σ (if muOk m e i = true then ((evR G call xs).bs e).bind _ else .st) _ := q
      by_cases hm : muOk m e i = true
      · rw [if_pos hm] at q'
        unfold muOk at hm
        split at hm
        · rename_i d hd
          obtain ⟨p, o, h1, h2, h3, h4, h5, hm'⟩ := r.ow (getD_ow hd)
          refine ⟨.ref p, h1, muTy_ok hm h2 h3, B, F, e, r, (q'.run (Le.refl F)).imp fun bs e1 _ q1 F1 H1 vs l1 r1 bv => ?_⟩
          split at q1
          · rename_i ds hds
            obtain ⟨F2, l2, r2, dr⟩ := SR.frzBs r1 bv hds
            split at q1
            · rename_i d2 hd2
              split at q1
              · rename_i d' rr hmu
                exact ⟨B, F2, _, σ, d2, ds, d', rr, r2, h1, getD_ow hd2, dr, hmu, Fin.le (l1.trans l2) q1⟩
              · exact q1.elim
            · exact q1.elim
          · exact q1.elim
        · cases hm
      · rw [if_neg hm] at q'
        exact q'.elim
    cases es with
    | nil =>
      refine PE.imp (pe_bm0 m1 m2 m3 (mu_ok (fa := fa) m i) hv rfl h2) fun σ H Q h => ?_
      obtain ⟨v, h1, h2, B, F, e, r, q⟩ := rd h
      rw [es_nil h4] at q
      exact ⟨v, h1, h2, q F H [] (Le.refl F) r (by simp only [BVs])⟩
    | cons y ys =>
      refine PE.imp (pe_bm m1 m2 m3 (mu_ok (fa := fa) m i) hv (C.es _ h4) rfl (few_ok ok (by have := of_decide_eq_true h5; simp at this; omega)) h2 (args_hs ok) (args_pl ok)) fun σ H Q h => ?_
      obtain ⟨v, h1, h2, h3⟩ := rd h
      exact ⟨v, h1, h2, h3⟩
  · cases hx
/-! ### ranges -/
theorem rng_walk {K : PySem.W.Frag} {F : Hp} : ∀ (n : Nat) (i : Int), (rngL i n).length = n ∧ ∀ j, j < n → (rngL i n)[j]? = some (.int (i + j))
  | 0, i => ⟨rfl, fun j h => absurd h (Nat.not_lt_zero _)⟩
  | n + 1, i => by
    obtain ⟨h1, h2⟩ := rng_walk (K := K) (F := F) n (i + 1)
    refine ⟨by simp [rngL, h1], fun j h => ?_⟩
    cases j with
    | zero => simp [rngL]
    | succ j =>
      have := h2 j (by omega)
      simp only [rngL, List.getElem?_cons_succ, this]
      congr 2
      omega
theorem rng_wd {K : PySem.W.Frag} {F : Hp} (n : Nat) (i : Int) : WalkD K fa (Itr i n) (rngL i n) F := by
  obtain ⟨h1, h2⟩ := rng_walk (K := K) (F := F) n i
  refine ⟨fun _ => True, _, by rw [h1]; exact walk_range, fun _ _ => True.intro, fun j H x H' B F1 e σ hj l r y => ?_⟩
  obtain ⟨e1, e2⟩ := y
  subst e1 e2
  exact ⟨F1, .int (i + j), h2 j (by omega), Le.refl F1, r, by simp only [DR]⟩
theorem smallI_ok {i : Int} (h : smallI i = true) : -(2 ^ 62) ≤ i ∧ i < 2 ^ 62 := by
  have h := Nat.le_of_ble_eq_true h
  exact ⟨by omega, by omega⟩
theorem sndI {A : Ev → R (List D)} {g : Expr → Bool} (h : ∀ tg x, g x = true → PI X tg x (rI X.K fa xa W A) ∧ okE x = true) : Snd G fa xa call X W { noR with i := A } { eNo with i := g } :=
  ⟨fun _ h => (nomatch h), fun _ h => (nomatch h), fun _ _ _ h => (nomatch h), fun _ h => (nomatch h), fun _ h => (nomatch h), fun _ h => (nomatch h), h, fun _ h => (nomatch h), fun _ h => (nomatch h)⟩
theorem snd_rng1 (g : GoodE G fa xa call k lv X sc W) {a : SE} (A : SndA G fa xa call lv X sc W a) : SndA G fa xa call lv X sc W (.rng1 a) := by
  refine sndI fun tg x hx => ?_
  split at hx
  · rename_i x p l pos
    obtain ⟨h1, h2, h3⟩ := and3 hx
    have e1 : x = "range" := of_decide_eq_true h1
    subst e1
    refine ⟨PI.imp (pi_range1 (gl_ok g h2) (g.facts.free _ (by decide)) (pa_cons (A.e _ h3) pa_nil (starE (A.ok _ h3))) (starE (A.ok _ h3))) fun σ H RR ⟨B, F, e, r, q⟩ => ?_, rfl⟩
    have q' : XP X.K fa xa W B F σ (((evR G call a).f e).bind _) _ := q
    refine ⟨B, F, e, r, (q'.run (Le.refl F)).imp fun y e1 hy q1 F1 H1 v l1 r1 fv => ?_⟩
    obtain ⟨d, fr⟩ := y
    cases d <;> try (exact q1.elim)
    rename_i j
    simp only at q1
    split at q1
    · rename_i hs
      obtain ⟨s1, s2⟩ := smallI_ok hs
      obtain ⟨F2, l2, r2, d2⟩ := r1.freeze fv
      simp only [DR] at d2
      subst d2
      exact ⟨j, rfl, s1, s2, q1 F2 H1 _ (l1.trans l2) r2 (rng_wd _ _)⟩
    · exact q1.elim
  · cases hx
theorem snd_rng2 (g : GoodE G fa xa call k lv X sc W) {a b : SE} (A : SndA G fa xa call lv X sc W a) (C : SndA G fa xa call lv X sc W b) : SndA G fa xa call lv X sc W (.rng2 a b) := by
  refine sndI fun tg x hx => ?_
  split at hx
  · rename_i x p l l' pos
    obtain ⟨hx, h4⟩ := and2 hx
    obtain ⟨h1, h2, h3⟩ := and3 hx
    have e1 : x = "range" := of_decide_eq_true h1
    subst e1
    have s2 : starEach [l'] X.env = [(false, eval l' X.env)] := starE (C.ok _ h4)
    have s1 : starEach [l, l'] X.env = [(false, eval l X.env), (false, eval l' X.env)] := by rw [starE (A.ok _ h3), s2]
    refine ⟨PI.imp (pi_range2 (gl_ok g h2) (g.facts.free _ (by decide)) (pa_cons (A.e _ h3) (pa_cons (C.e _ h4) pa_nil s2) (starE (A.ok _ h3))) s1 s2) fun σ H RR ⟨B, F, e, r, q⟩ => ?_, rfl⟩
    have q' : XP X.K fa xa W B F σ (((evR G call a).f e).bind _) _ := q
    refine ⟨B, F, e, r, (q'.run (Le.refl F)).imp fun y e1 hy q1 F1 H1 v l1 r1 fv => ?_⟩
    obtain ⟨F1', l1', r1', dv⟩ := r1.freeze fv
    refine ⟨B, F1', e1, r1', (q1.run (l1.trans l1')).imp fun z e2 hz q2 F2 H2 v' l2 r2 fv' => ?_⟩
    obtain ⟨F2', l2', r2', dv'⟩ := r2.freeze fv'
    obtain ⟨d, fr⟩ := y
    obtain ⟨d', fr'⟩ := z
    cases d <;> cases d' <;> try (exact q2.elim)
    rename_i i j
    simp only at q2
    split at q2
    · rename_i hs
      obtain ⟨hs1, hs2⟩ := and2 hs
      obtain ⟨s1, s2⟩ := smallI_ok hs1
      obtain ⟨s3, s4⟩ := smallI_ok hs2
      simp only [DR] at dv dv'
      subst dv dv'
      exact ⟨i, j, rfl, ⟨s1, s2, s3, s4⟩, q2 F2' H2 _ (((l1.trans l1').trans l2).trans l2') r2' (rng_wd _ _)⟩
    · exact q2.elim
  · cases hx
end
end EV
/-! Targets; list comprehensions. -/
namespace EV
open PySem L2
/-! ### slots forgotten -/
theorem wipe_mem {σ : L2.St} {i : Nat} : ∀ {vs : List Nat}, i ∈ vs → i < σ.length → (wipe σ vs)[i]? = some none
  | v :: vs, h, hl => by
    unfold wipe
    by_cases hv : v = i
    · subst hv
      exact List.getElem?_set_self (by rw [wipe_length]; exact hl)
    · rw [List.getElem?_set_ne hv]
      rcases List.mem_cons.mp h with z | z
      · exact absurd z.symm hv
      · exact wipe_mem z hl
theorem wipe_ext {σ σ' : L2.St} {vs : List Nat} (hl : σ'.length = σ.length) (h : ∀ i, i ∉ vs → σ'[i]? = σ[i]?) : wipe σ' vs = wipe σ vs := by
  refine List.ext_getElem? fun i => ?_
  by_cases hi : i ∈ vs
  · by_cases hz : i < σ.length
    · rw [wipe_mem hi hz, wipe_mem hi (by rw [hl]; exact hz)]
    · rw [List.getElem?_eq_none (by rw [wipe_length]; omega), List.getElem?_eq_none (by rw [wipe_length]; omega)]
  · rw [wipe_out hi, wipe_out hi]
    exact h i hi
theorem wipeE_length (e : Ev) : ∀ vs : List Nat, (wipeE e vs).length = e.length
  | [] => rfl
  | v :: vs => by unfold wipeE; rw [List.length_set, wipeE_length e vs]
theorem wipeE_out {e : Ev} {i : Nat} : ∀ {vs : List Nat}, i ∉ vs → (wipeE e vs)[i]? = e[i]?
  | [], _ => rfl
  | v :: vs, h => by
    have h1 : v ≠ i := fun e => h (by rw [e]; exact List.mem_cons_self)
    have h2 : i ∉ vs := fun m => h (List.mem_cons_of_mem _ m)
    unfold wipeE
    rw [List.getElem?_set_ne h1]
    exact wipeE_out h2
theorem wipeE_mem {e : Ev} {i : Nat} {s : Sl} : ∀ {vs : List Nat}, i ∈ vs → (wipeE e vs)[i]? = some s → s = .no
  | v :: vs, h, q => by
    unfold wipeE at q
    by_cases hv : v = i
    · subst hv
      by_cases hl : v < (wipeE e vs).length
      · rw [List.getElem?_set_self hl] at q
        exact (Option.some.inj q).symm
      · rw [List.getElem?_eq_none (by simpa using hl)] at q
        cases q
    · rw [List.getElem?_set_ne hv] at q
      rcases List.mem_cons.mp h with z | z
      · exact absurd z.symm hv
      · exact wipeE_mem z q
theorem putBack_length (e e0 : Ev) : ∀ vs : List Nat, (putBack e e0 vs).length = e.length
  | [] => rfl
  | v :: vs => by unfold putBack; rw [List.length_set, putBack_length e e0 vs]
theorem putBack_out {e e0 : Ev} {i : Nat} : ∀ {vs : List Nat}, i ∉ vs → (putBack e e0 vs)[i]? = e[i]?
  | [], _ => rfl
  | v :: vs, h => by
    have h1 : v ≠ i := fun e => h (by rw [e]; exact List.mem_cons_self)
    have h2 : i ∉ vs := fun m => h (List.mem_cons_of_mem _ m)
    unfold putBack
    rw [List.getElem?_set_ne h1]
    exact putBack_out h2
theorem putBack_mem {e e0 : Ev} {i : Nat} {s : Sl} : ∀ {vs : List Nat}, i ∈ vs → (putBack e e0 vs)[i]? = some s → s = e0.getD i .no
  | v :: vs, h, q => by
    unfold putBack at q
    by_cases hv : v = i
    · subst hv
      by_cases hl : v < (putBack e e0 vs).length
      · rw [List.getElem?_set_self hl] at q
        exact (Option.some.inj q).symm
      · rw [List.getElem?_eq_none (by simpa using hl)] at q
        cases q
    · rw [List.getElem?_set_ne hv] at q
      rcases List.mem_cons.mp h with z | z
      · exact absurd z.symm hv
      · exact putBack_mem z q
section
variable {K : PySem.W.Frag} {fa xa : Nat → Addr} {W : WX} {B : Bs} {F F' H H' : Hp} {e : Ev} {σ : L2.St}
theorem SR.wipe (r : SR K fa B F e σ H) (hi : B.ios = []) (vs : List Nat) : SR K fa B F (wipeE e vs) (L2.wipe σ vs) H := by
  have ow : ∀ {i : Nat} {d : D}, (wipeE e vs)[i]? = some (.ow d) → i ∉ vs ∧ e[i]? = some (.ow d) ∧ (L2.wipe σ vs)[i]? = σ[i]? := fun {i d} q => by
    by_cases h : i ∈ vs
    · have := wipeE_mem h q
      cases this
    · exact ⟨h, by rw [wipeE_out h] at q; exact q, wipe_out h⟩
  refine ⟨r.sub, r.mono, r.fresh, r.keep, r.io, ?_, ?_, fun i s w q1 q2 => ?_, fun i d a q1 q2 => ?_, fun i j d d' a q1 q2 q3 q4 => ?_⟩
  · rw [hi]
    exact fun _ h => nomatch h
  · rw [wipeE_length, wipe_length, r.len]
  · by_cases h : i ∈ vs
    · have := wipeE_mem h q1
      subst this
      exact True.intro
    · rw [wipeE_out h] at q1
      rw [wipe_out h] at q2
      exact r.sl i s w q1 q2
  · obtain ⟨_, h1, h2⟩ := ow q1
    rw [h2] at q2
    exact r.own i d a h1 q2
  · obtain ⟨_, h1, h2⟩ := ow q1
    obtain ⟨_, h3, h4⟩ := ow q2
    rw [h2] at q3
    rw [h4] at q4
    exact r.inj i j d d' a h1 h3 q3 q4
theorem owns_wipe {vs : List Nat} {a : Addr} (h : a ∈ owns (wipeE e vs) (L2.wipe σ vs)) : a ∈ owns e σ ∧ ∃ i d, i ∉ vs ∧ e[i]? = some (.ow d) ∧ σ[i]? = some (some (.ref a)) := by
  obtain ⟨i, d, q1, q2⟩ := mem_owns.mp h
  by_cases hm : i ∈ vs
  · have := wipeE_mem hm q1
    cases this
  · rw [wipeE_out hm] at q1
    rw [wipe_out hm] at q2
    exact ⟨mem_owns.mpr ⟨i, d, q1, q2⟩, i, d, hm, q1, q2⟩
/-- an object that nobody of the state holds changes -/
theorem SR.other (r : SR K fa B F e σ H) {p : Addr} {o : HO} (hf : F p = none) (hb : B.H p = none) (hio : p ∉ B.IO) (ho : ∀ (i : Nat) (d : D), e[i]? = some (.ow d) → σ[i]? ≠ some (some (.ref p))) : SR K fa B F e σ (upd H p o) := by
  have ne : ∀ {a : Addr}, a ≠ p → upd H p o a = H a := fun {a} h => upd_ne h
  refine ⟨fun a u q => ?_, r.mono, r.fresh, fun a u q z => ?_, fun a z => ?_, r.ios, r.len, fun i s w q1 q2 => ?_, r.own, r.inj⟩
  · rw [ne (fun z => by subst z; rw [hf] at q; cases q)]
    exact r.sub a u q
  · rw [ne (fun z => by subst z; rw [hb] at q; cases q)]
    exact r.keep a u q z
  · rw [ne (fun y => by subst y; exact hio z)]
    exact r.io a z
  · refine (r.sl i s w q1 q2).le (Le.refl F) (fun d a u es ew q => ?_) fun d a es ew => ?_
    · subst es ew
      rw [ne (fun y => by subst y; exact ho i d q1 q2)]
      exact q
    · subst es ew
      obtain ⟨_, a', u, g1, _, _, g4⟩ := r.sl i _ _ q1 q2
      cases g1
      exact g4
/-- behind a comprehension's block -/
theorem SR.behind {e2 : Ev} {vs : List Nat} (r1 : SR K fa B F e σ H) (r2 : SR K fa (here F H (wipeE e vs) (L2.wipe σ vs)) F' e2 (L2.wipe σ vs) H') : SR K fa B F' (putBack e2 e vs) σ H' := by
  have sl0 : ∀ {i : Nat} {s : Sl}, i ∈ vs → (putBack e2 e vs)[i]? = some s → s ≠ .no → e[i]? = some s := fun {i s} hi q hn => by
    have q' := putBack_mem hi q
    cases z : e[i]? with
    | none =>
      rw [List.getD_eq_getElem?_getD, z] at q'
      exact absurd q' hn
    | some u =>
      rw [getD_some z] at q'
      rw [q']
  have notIO : ∀ {i : Nat} {d : D} {a : Addr}, i ∈ vs → e[i]? = some (.ow d) → σ[i]? = some (some (.ref a)) → a ∉ (here F H (wipeE e vs) (L2.wipe σ vs)).IO := fun {i d a} hi q1 q2 h => by
    obtain ⟨_, j, d', hj, g1, g2⟩ := owns_wipe h
    have := r1.inj i j d d' a q1 g1 q2 g2
    subst this
    exact hj hi
  have up : ∀ a, (here F H (wipeE e vs) (L2.wipe σ vs)).H a = none ∨ a ∈ (here F H (wipeE e vs) (L2.wipe σ vs)).IO → H a = none ∨ a ∈ owns e σ := fun a z => z.elim .inl fun z => .inr (owns_wipe z).1
  refine SR.back r1 (e' := putBack e2 e vs) (σ' := σ) ⟨r2.sub, r2.mono, fun a o q1 q2 => up a (r2.fresh a o q1 q2), fun a o q z => r2.keep a o q fun y => z (owns_wipe y).1, fun a z => ?_, fun _ h => (nomatch h), ?_, fun i s w q1 q2 => ?_, fun i d a q1 q2 => ?_, fun i j d d' a q1 q2 q3 q4 => ?_⟩ r1.ios
  · by_cases hm : a ∈ (here F H (wipeE e vs) (L2.wipe σ vs)).IO
    · exact r2.io a hm
    · obtain ⟨i, d, g1, g2⟩ := mem_owns.mp z
      obtain ⟨a', o, h1, h2, _⟩ := r1.ow g1
      rw [g2] at h1
      cases h1
      exact ⟨o, r2.keep a o h2 hm⟩
  · rw [putBack_length, r2.len, wipe_length]
  · by_cases hi : i ∈ vs
    · by_cases hn : s = .no
      · subst hn
        exact True.intro
      · have g := sl0 hi q1 hn
        refine (r1.sl i s w g q2).le r2.mono (fun d a o es ew q => ?_) fun d a es ew => ?_
        · subst es ew
          exact r2.keep a o q (notIO hi g q2)
        · subst es ew
          obtain ⟨_, a', o, g1, g2, _, g4⟩ := r1.sl i _ _ g q2
          cases g1
          cases y : F' a with
          | none => rfl
          | some o' =>
            rcases r2.fresh a o' y g4 with z | z
            · have z' : H a = none := z
              rw [g2] at z'
              cases z'
            · exact absurd z (notIO hi g q2)
    · rw [putBack_out hi] at q1
      rw [← wipe_out hi] at q2
      exact r2.sl i s w q1 q2
  · by_cases hi : i ∈ vs
    · exact .inr (mem_owns.mpr ⟨i, d, sl0 hi q1 (fun z => nomatch z), q2⟩)
    · rw [putBack_out hi] at q1
      rw [← wipe_out hi] at q2
      exact up a (r2.own i d a q1 q2)
  · have mix : ∀ {i j : Nat} {d d' : D}, i ∈ vs → j ∉ vs → (putBack e2 e vs)[i]? = some (.ow d) → (putBack e2 e vs)[j]? = some (.ow d') → σ[i]? = some (some (.ref a)) → σ[j]? = some (some (.ref a)) → False := fun {i j d d'} hi hj q1 q2 q3 q4 => by
      have g := sl0 hi q1 (fun z => nomatch z)
      rw [putBack_out hj] at q2
      rw [← wipe_out hj] at q4
      rcases r2.own j d' a q2 q4 with z | z
      · obtain ⟨a', o, h1, h2, _⟩ := r1.ow g
        rw [q3] at h1
        cases h1
        have z' : H a = none := z
        rw [h2] at z'
        cases z'
      · exact notIO hi g q3 z
    by_cases hi : i ∈ vs <;> by_cases hj : j ∈ vs
    · exact r1.inj i j d d' a (sl0 hi q1 (fun z => nomatch z)) (sl0 hj q2 (fun z => nomatch z)) q3 q4
    · exact (mix hi hj q1 q2 q3 q4).elim
    · exact (mix hj hi q2 q1 q4 q3).elim
    · rw [putBack_out hi] at q1
      rw [putBack_out hj] at q2
      rw [← wipe_out hi] at q3
      rw [← wipe_out hj] at q4
      exact r2.inj i j d d' a q1 q2 q3 q4
/-! ### targets -/
def gTs : List Nat → TGs
  | [] => gNil
  | i :: is => gCons (gName i) (gTs is)
def gT (K : PySem.W.Frag) : Tg → TG
  | .nm i => gName i
  | .tp is => gTup K is.length (gTs is)
def tgIx : Tg → List Nat
  | .nm i => [i]
  | .tp is => is
theorem gTs_ok {Q : L2.St → Hp → Prop} : ∀ {is : List Nat} {ds : List D} {vs : List V} {e e' : Ev} {σ : L2.St}, SR K fa B F e σ H → DRs K fa F ds vs → setAll is ds e = some e' → (∀ p ∈ B.ios, p.1 ∉ is) →
    (∀ σ', SR K fa B F e' σ' H → σ'.length = σ.length → (∀ j, j ∉ is → σ'[j]? = σ[j]?) → Q σ' H) → gTs is vs σ H Q
  | [], [], vs, e, e', σ, r, h, q, hi, k => by
    simp only [DRs] at h
    simp only [setAll] at q
    cases q
    exact ⟨h, k σ r rfl fun _ _ => rfl⟩
  | [], d :: ds, vs, e, e', σ, r, h, q, hi, k => by
    simp only [setAll] at q
    cases q
  | i :: is, [], vs, e, e', σ, r, h, q, hi, k => by
    simp only [setAll] at q
    cases q
  | i :: is, d :: ds, vs, e, e', σ, r, h, q, hi, k => by
    simp only [DRs] at h
    obtain ⟨v, rr, e1, h1, h2⟩ := h
    simp only [setAll] at q
    refine ⟨v, rr, e1, ?_⟩
    have r1 := r.asgSh (i := i) (fun p hp z => hi p hp (by rw [z]; exact List.mem_cons_self)) h1
    refine gTs_ok r1 h2 q (fun p hp z => hi p hp (List.mem_cons_of_mem _ z)) fun σ' r2 hl hs => k σ' r2 (by rw [hl, List.length_set]) fun j hj => ?_
    rw [hs j fun z => hj (List.mem_cons_of_mem _ z), List.getElem?_set_ne fun z => hj (by rw [z]; exact List.mem_cons_self)]
theorem setAll_len : ∀ {is : List Nat} {ds : List D} {e e' : Ev}, setAll is ds e = some e' → is.length = ds.length
  | [], [], _, _, _ => rfl
  | [], _ :: _, _, _, q => by
    simp only [setAll] at q
    cases q
  | _ :: _, [], _, _, q => by
    simp only [setAll] at q
    cases q
  | i :: is, d :: ds, e, e', q => by
    simp only [setAll] at q
    rw [List.length_cons, List.length_cons, setAll_len q]
theorem gT_ok {Q : L2.St → Hp → Prop} {tg : Tg} {d : D} {v : V} {e' : Ev} (r : SR K fa B F e σ H) (h : DR K fa F d v) (q : tgD tg d e = some e') (hi : ∀ p ∈ B.ios, p.1 ∉ tgIx tg)
    (k : ∀ σ', SR K fa B F e' σ' H → σ'.length = σ.length → (∀ j, j ∉ tgIx tg → σ'[j]? = σ[j]?) → Q σ' H) : gT K tg v σ H Q := by
  cases tg with
  | nm i =>
    simp only [tgD] at q
    cases q
    refine k _ (r.asgSh (fun p hp z => hi p hp (by rw [z]; exact List.mem_cons_self)) h) (List.length_set) fun j hj => ?_
    exact List.getElem?_set_ne fun z => hj (by rw [z]; exact List.mem_cons_self)
  | tp is =>
    simp only [tgD] at q
    cases d <;> try (cases q)
    rename_i ds
    simp only [DR] at h
    obtain ⟨a, vs, e1, h1, h2⟩ := h
    have q' : setAll is ds e = some e' := q
    exact ⟨a, vs, e1, SqT.le r.sub h1, by rw [← DRs.length h2, setAll_len q'], gTs_ok r h2 q' hi k⟩
end
section
variable {X : Cx} {sc : Scope}
theorem st_ok {fb : Str → Bool} (hs : X.env.scope = sc) (hfb : ∀ x, fb x = true → X.fn x = true) {x : Str} (h : stB sc fb x = true) : Loc X.env.scope x ∧ (X.fn x = true ∨ X.env.scope.names.lookup x = some .local) := by
  rw [hs]
  unfold stB at h
  rcases Bool.or_eq_true_iff.mp h with h | h
  · unfold locB at h
    split at h
    · rename_i hl
      exact ⟨.inl hl, .inr hl⟩
    · cases h
  · obtain ⟨h1, h2⟩ := and2 h
    unfold celB at h1
    split at h1
    · rename_i hl
      exact ⟨.inr hl, .inl (hfb x h2)⟩
    · cases h1
theorem tgs_pg {fb : Str → Bool} (hs : X.env.scope = sc) (hfb : ∀ x, fb x = true → X.fn x = true) (hN : X.N.Nodup) : ∀ {is : List Nat} {es : List Expr}, tgB.tgs X.N sc fb is es = true → PGs X es (gTs is) ∧ (assignEach es X.env).length = is.length ∧ (assignEach es X.env).findIdx? (·.1) = none
  | [], [], _ => ⟨pgs_nil, rfl, rfl⟩
  | [], _ :: _, h => by cases h
  | _ :: _, [], h => by cases h
  | i :: is, e :: es, h => by
    cases e <;> try (cases h)
    rename_i x p
    obtain ⟨h1, h2, h3⟩ := and3 h
    obtain ⟨l1, l2⟩ := st_ok hs hfb h2
    obtain ⟨g1, g2, g3⟩ := tgs_pg hs hfb hN h3
    refine ⟨pgs_cons (pg_name hN (of_decide_eq_true h1) l1 l2) g1, ?_, ?_⟩
    · show (assignEach es X.env).length + 1 = is.length + 1
      rw [g2]
    · show List.findIdx? (·.1) ((false, assign (.Name x p) X.env) :: assignEach es X.env) = none
      rw [List.findIdx?_cons]
      show (if false = true then some 0 else Option.map (· + 1) (List.findIdx? (·.1) (assignEach es X.env))) = none
      rw [if_neg Bool.false_ne_true, g3]
      rfl
theorem tg_pg {fb : Str → Bool} (hs : X.env.scope = sc) (hfb : ∀ x, fb x = true → X.fn x = true) (hN : X.N.Nodup) (hc : X.calm = true) {tg : Tg} {x : Expr} (h : tgB X.N sc fb tg x = true) : PG X x (gT X.K tg) := by
  cases tg with
  | nm i =>
    cases x <;> try (cases h)
    obtain ⟨h1, h2⟩ := and2 h
    obtain ⟨l1, l2⟩ := st_ok hs hfb h2
    exact pg_name hN (of_decide_eq_true h1) l1 l2
  | tp is =>
    cases x <;> try (cases h)
    rename_i es n p
    obtain ⟨g1, g2, g3⟩ := tgs_pg hs hfb hN (show tgB.tgs X.N sc fb is es = true from h)
    exact pg_tup hc g1 g2 g3
end
end EV
/-! List comprehensions by the evaluator; every expression. -/
namespace EV
open PySem L2
abbrev W0 : WX := fun _ _ _ _ => False
section
variable {G : Cfg} {fa xa : Nat → Addr} {call : Nat → List Sl → FR} {k : Nat} {lv : Bool} {X : Cx} {sc : Scope} {W : WX}
theorem tgIn_ix {vs : List Nat} {tg : Tg} (h : tgIn vs tg = true) : ∀ i ∈ tgIx tg, i ∈ vs := by
  cases tg with
  | nm i =>
    intro j hj
    have e : j = i := by simpa [tgIx] using hj
    subst e
    exact of_decide_eq_true h
  | tp is =>
    intro j hj
    exact of_decide_eq_true (List.all_eq_true.mp (show (is.all fun i => decide (i ∈ vs)) = true from h) j hj)
/-- the reading of a comprehension -/
theorem comp_rd {f : Ev → R (List D)} {t : Ev → R Bool} {l : Ev → R (D × Bool)} {tg : Tg} {vs : List Nat} {σ : L2.St} {H : Hp} {Q : VK} (hin : tgIn vs tg = true)
    (h : rF X.K fa xa W (fun e => (f e).bind fun ds e1 => (compL vs tg t l ds [] e1).bind fun ys e2 => .ok (.lst ys, true) (putBack e2 e1 vs)) σ H Q) :
    tLc (rI X.K fa xa W f) (gT X.K tg) (rT X.K fa xa W0 t) (rF X.K fa xa W0 l) vs σ H Q := by
  obtain ⟨B, F, e, r, q⟩ := h
  refine ⟨B, F, e, r, (q.run (Le.refl F)).imp fun ds e1 _ q1 F1 H1 J l1 r1 wd D hD => ?_⟩
  obtain ⟨Gp, Y, wk, hg, hy⟩ := wd
  cases hc : compL vs tg t l ds [] e1 with
  | st =>
    rw [hc] at q1
    exact q1.elim
  | er c e2 =>
    exfalso
    have ne : ∀ (ds acc : List EV.D) (e : Ev) (c : Nat) (e2 : Ev), compL vs tg t l ds acc e ≠ .er c e2 := fun ds => by
      induction ds with
      | nil => exact fun acc e c e2 z => nomatch z
      | cons d ds ih =>
        intro acc e c e2 z
        unfold compL at z
        split at z
        · cases z
        · split at z
          · split at z
            · split at z
              · exact ih _ _ _ _ z
              · cases z
            · cases z
          · exact ih _ _ _ _ z
          · cases z
    exact ne _ _ _ _ _ hc
  | ok ys e2 =>
    rw [hc] at q1
    have fin : Fin X.K fa B F (putBack e2 e1 vs) σ (.lst ys) true Q := q1
    have rw1 : SR X.K fa (here F1 H1 (wipeE e1 vs) (L2.wipe σ vs)) F1 (wipeE e1 vs) (L2.wipe σ vs) H1 := ((r1.rebase).wipe rfl vs).rebase
    obtain ⟨dF, dB, dIO⟩ := rw1.none_of hD
    have dow : ∀ {e : Ev} {σ : L2.St} {B : Bs} {F : Hp}, SR X.K fa B F e σ H1 → ∀ (i : Nat) (d : EV.D), e[i]? = some (.ow d) → σ[i]? ≠ some (some (.ref D)) := fun {e σ B F} r i d g z => by
      obtain ⟨a, o, h1, h2, _⟩ := r.ow g
      rw [z] at h1
      cases h1
      rw [hD] at h2
      cases h2
    refine lc_it wk (fun i H => ∃ F2 e acc avs, Le F1 F2 ∧ SR X.K fa (here F1 H1 (wipeE e1 vs) (L2.wipe σ vs)) F2 (wipeE e vs) (L2.wipe σ vs) H ∧ H D = some (.lst avs) ∧ F2 D = none ∧ DRs X.K fa F2 acc avs ∧
      (∀ (i : Nat) (d : EV.D), (wipeE e vs)[i]? = some (.ow d) → (L2.wipe σ vs)[i]? ≠ some (some (.ref D))) ∧ compL vs tg t l (ds.drop i) acc e = .ok ys e2) ?_ ?_ ?_ ?_
    · exact ⟨F1, e1, [], [], Le.refl F1, rw1.other dF dB dIO (dow rw1), upd_same, dF, DRs.nil, dow rw1, by rw [List.drop_zero]; exact hc⟩
    · rintro i H2 _ ⟨F2, e, acc, avs, l2, r2, _⟩
      exact hg H2 (l2.trans r2.sub)
    · rintro i x H2 H3 hi ⟨F2, e, acc, avs, l2, r2, hDv, fD, dacc, nD, hcl⟩ y
      have rt := r2.rebase
      obtain ⟨F3, d, hd, l3, r3, dr⟩ := hy i H2 x H3 _ F2 _ _ hi l2 rt y
      have hdrop : ds.drop i = d :: ds.drop (i + 1) := by
        obtain ⟨hlt, hv⟩ := List.getElem?_eq_some_iff.mp hd
        rw [List.drop_eq_getElem_cons hlt, hv]
      rw [hdrop] at hcl
      unfold compL at hcl
      -- D stays as it is within the turn
      have notIO : D ∉ (here F2 H2 (wipeE e vs) (L2.wipe σ vs)).IO := fun z => by
        obtain ⟨i, d, q1, q2⟩ := mem_owns.mp z
        exact nD i d q1 q2
      have keepD : ∀ {F e σ' H}, SR X.K fa (here F2 H2 (wipeE e1 vs) (L2.wipe σ vs)) F e σ' H → True := fun _ => True.intro
      have stay : ∀ {F' : Hp} {e' : Ev} {σ' : L2.St} {H' : Hp}, SR X.K fa (here F2 H2 (wipeE e vs) (L2.wipe σ vs)) F' e' σ' H' → H' D = some (.lst avs) ∧ F' D = none ∧ ∀ (i : Nat) (d : EV.D), e'[i]? = some (.ow d) → σ'[i]? ≠ some (some (.ref D)) := fun {F' e' σ' H'} r' => by
        have hHD : (here F2 H2 (wipeE e vs) (L2.wipe σ vs)).H D = some (.lst avs) := hDv
        refine ⟨r'.keep D _ hHD notIO, ?_, fun i d q1 q2 => ?_⟩
        · cases z : F' D with
          | none => rfl
          | some o =>
            rcases r'.fresh D o z fD with y | y
            · rw [hHD] at y
              cases y
            · exact absurd y notIO
        · rcases r'.own i d D q1 q2 with y | y
          · rw [hHD] at y
            cases y
          · exact notIO y
      split at hcl
      · cases hcl
      · rename_i e' htg
        refine gT_ok r3 dr htg (fun _ h => nomatch h) fun σ2 r4 hl hs => ?_
        have hw : L2.wipe σ2 vs = L2.wipe σ vs := by
          refine wipe_ext (by rw [hl, wipe_length]) fun j hj => ?_
          rw [hs j fun z => hj (tgIn_ix hin j z), wipe_out hj]
        refine ⟨hw, _, F3, e', r4, ?_⟩
        -- the turn's end
        have done : ∀ {F' : Hp} {e'' : Ev} {H' : Hp} {acc' : List EV.D} {avs' : List V}, Le F3 F' → SR X.K fa (here F2 H2 (wipeE e vs) (L2.wipe σ vs)) F' e'' σ2 H' → DRs X.K fa F' acc' avs' → compL vs tg t l (ds.drop (i + 1)) acc' e'' = .ok ys e2 →
            SR X.K fa (here F1 H1 (wipeE e1 vs) (L2.wipe σ vs)) F' (wipeE e'' vs) (L2.wipe σ vs) H' ∧ Le F1 F' := fun {F' e'' H' acc' avs'} l4 r5 _ _ => by
          have r6 := r5.wipe rfl vs
          rw [hw] at r6
          exact ⟨r2.back r6 (fun _ h => nomatch h), (l2.trans l3).trans l4⟩
        split at hcl
        · rename_i e3 ht
          rw [ht]
          intro F4 H4 l4 r5
          rw [if_pos rfl]
          refine ⟨_, F4, e3, r5, ?_⟩
          split at hcl
          · rename_i y e4 hl'
            rw [hl']
            intro F5 H5 v l5 r6 fv
            obtain ⟨F6, l6, r7, dv⟩ := r6.freeze fv
            obtain ⟨hDv', fD', nD'⟩ := stay r7
            split at hcl
            · rename_i hlen
              have dacc' : DRs X.K fa F6 acc avs := DRs.le (((l3.trans l4).trans l5).trans l6) _ _ dacc
              have dnew : DRs X.K fa F6 (acc ++ [y.1]) (avs ++ [v]) := DRs.append dacc' (DRs.cons dv DRs.nil)
              obtain ⟨r8, l8⟩ := done ((l4.trans l5).trans l6) r7 dnew hcl
              have nD8 : ∀ (i : Nat) (d : EV.D), (wipeE e4 vs)[i]? = some (.ow d) → (L2.wipe σ vs)[i]? ≠ some (some (.ref D)) := fun i d q1 q2 => by
                by_cases hm : i ∈ vs
                · have := wipeE_mem hm q1
                  cases this
                · rw [wipeE_out hm] at q1
                  rw [← hw, wipe_out hm] at q2
                  exact nD' i d q1 q2
              refine ⟨avs, hDv', by rw [← DRs.length dacc]; exact of_decide_eq_true hlen, F6, e4, acc ++ [y.1], avs ++ [v], l8, r8.other fD' dB dIO nD8, upd_same, fD', dnew, nD8, hcl⟩
            · cases hcl
          · cases hcl
        · rename_i e3 ht
          rw [ht]
          intro F4 H4 l4 r5
          rw [if_neg Bool.false_ne_true]
          obtain ⟨hDv', fD', nD'⟩ := stay r5
          have dacc' : DRs X.K fa F4 acc avs := DRs.le (l3.trans l4) _ _ dacc
          obtain ⟨r8, l8⟩ := done l4 r5 dacc' hcl
          refine ⟨F4, e3, acc, avs, l8, r8, hDv', fD', dacc', fun i d q1 q2 => ?_, hcl⟩
          by_cases hm : i ∈ vs
          · have := wipeE_mem hm q1
            cases this
          · rw [wipeE_out hm] at q1
            rw [← hw, wipe_out hm] at q2
            exact nD' i d q1 q2
        · cases hcl
    · rintro H2 ⟨F2, e, acc, avs, l2, r2, hDv, fD, dacc, nD, hcl⟩
      rw [List.drop_length] at hcl
      unfold compL at hcl
      cases hcl
      refine fin F2 H2 (.ref D) (l1.trans l2) (r1.behind r2) (FV.mk hDv (by simp only [OR]; exact ⟨avs, rfl, dacc⟩) fD (.inl (r1.none_of hD).2.1) fun i d' q1 q2 => ?_)
      by_cases hm : i ∈ vs
      · have q3 := putBack_mem hm q1
        cases z : e1[i]? with
        | none =>
          rw [List.getD_eq_getElem?_getD, z] at q3
          cases q3
        | some u =>
          rw [getD_some z] at q3
          subst q3
          exact dow r1 i d' z q2
      · rw [putBack_out hm] at q1
        rw [← wipe_out hm] at q2
        exact nD i d' q1 q2
theorem goodBlk (g : GoodE G fa xa call k lv X sc W) (s : Shared) (H : Hp) (scope : Scope) (C : Addr) (cl : List (Str × Addr)) (fp : List Addr) : GoodE G fa xa call k lv (X.blk s H scope (compEnvC scope cl C X.env) fp) (relS scope sc) W0 where
  scope := by
    show relS scope X.env.scope = relS scope sc
    rw [g.scope]
  nd := g.nd
  un := g.un
  calm := g.calm
  room := g.room
  tk := takes0
  facts := g.facts
  calls := g.calls
theorem blk_fn {s : Shared} {H : Hp} {scope : Scope} {C : Env} {fp : List Addr} (x : Str) (h : celB scope x = true) : (X.blk s H scope C fp).fn x = true := by
  show (scope.names.lookup x == some .cell) = true
  unfold celB at h
  split at h
  · rename_i e
    rw [e]
    rfl
  · cases h
theorem snd_comp (g : GoodE G fa xa call k lv X sc W) {el it c : SE} (tg : Tg) (own : List (Str × Nat)) (E : ∀ X sc W, GoodE G fa xa call k lv X sc W → SndA G fa xa call lv X sc W el) (I : SndA G fa xa call lv X sc W it)
    (C : ∀ X sc W, GoodE G fa xa call k lv X sc W → SndA G fa xa call lv X sc W c) : SndA G fa xa call lv X sc W (.comp el tg it c own) := by
  refine Snd.ofPE (fun x ok hx => ?_) (fun x ok hx => by replace hx := (and2 hx).2; cases x <;> first | rfl | cases hx)
  have hlv := (and2 hx).1
  replace hx := (and2 hx).2
  split at hx
  · rename_i elt tge ite ifs scope pos
    obtain ⟨hx, h6⟩ := and2 hx
    obtain ⟨hx, h5⟩ := and2 hx
    obtain ⟨hx, h4⟩ := and2 hx
    obtain ⟨h1, h2, h3⟩ := and3 hx
    rw [← g.scope] at h1
    obtain ⟨i1, i2⟩ := I.i tge ite h2
    refine PE.imp (pe_lc (g.calm hlv) g.nd i1 (blkOk_by h1) (fun s H C' cl fp => tg_pg (sc := relS scope sc) ((goodBlk g s H scope C' cl fp).scope) (blk_fn) g.nd (g.calm hlv) h3) (fun s H C' cl fp => (C _ _ _ (goodBlk g s H scope C' cl fp)).c ifs h5)
      (fun s H C' cl fp => (E _ _ _ (goodBlk g s H scope C' cl fp)).e elt h6) (fun x => folded_of i2 x)) fun σ H Q h => comp_rd h4 h
  · cases hx
/-- every expression comes to what the evaluator says -/
theorem snd : ∀ (a : SE) (X : Cx) (sc : Scope) (W : WX), GoodE G fa xa call k lv X sc W → SndA G fa xa call lv X sc W a
  | .var i, X, sc, W, g => snd_var g i
  | .lit d, X, sc, W, g => snd_lit g d
  | .glo n, X, sc, W, g => snd_glo g n
  | .fnv f, X, sc, W, g => snd_fnv g f
  | .bin op a b, X, sc, W, g => snd_bin g op (snd a X sc W g) (snd b X sc W g)
  | .una op a, X, sc, W, g => snd_una g op (snd a X sc W g)
  | .cmp op a b, X, sc, W, g => snd_cmp g op (snd a X sc W g) (snd b X sc W g)
  | .cmp2 o p a b c, X, sc, W, g => snd_cmp2 g o p (snd a X sc W g) (snd b X sc W g) (snd c X sc W g)
  | .and a b, X, sc, W, g => snd_and g (snd a X sc W g) (snd b X sc W g)
  | .or a b, X, sc, W, g => snd_or g (snd a X sc W g) (snd b X sc W g)
  | .not a, X, sc, W, g => snd_not g (snd a X sc W g)
  | .ife c a b, X, sc, W, g => snd_ife g (snd c X sc W g) (snd a X sc W g) (snd b X sc W g)
  | .lst xs, X, sc, W, g => snd_lst g (snd xs X sc W g)
  | .tup xs, X, sc, W, g => snd_tup g (snd xs X sc W g)
  | .ix a b, X, sc, W, g => snd_ix g (snd a X sc W g) (snd b X sc W g)
  | .sl a lo hi, X, sc, W, g => snd_sl g (snd a X sc W g) (snd lo X sc W g) (snd hi X sc W g)
  | .call f xs, X, sc, W, g => snd_call g f (snd xs X sc W g)
  | .callv i xs, X, sc, W, g => snd_callv g i (snd xs X sc W g)
  | .bi b xs, X, sc, W, g => snd_bi g b (snd xs X sc W g)
  | .isi a t, X, sc, W, g => snd_isi g t (snd a X sc W g)
  | .me m r xs, X, sc, W, g => snd_me g m (snd r X sc W g) (snd xs X sc W g)
  | .mu m i xs, X, sc, W, g => snd_mu g m i (snd xs X sc W g)
  | .comp el tg it c own, X, sc, W, g => snd_comp g tg own (fun X sc W g => snd el X sc W g) (snd it X sc W g) (fun X sc W g => snd c X sc W g)
  | .rng1 a, X, sc, W, g => snd_rng1 g (snd a X sc W g)
  | .rng2 a b, X, sc, W, g => snd_rng2 g (snd a X sc W g) (snd b X sc W g)
  | .nop, X, sc, W, g => snd_nop g
  | .nil, X, sc, W, g => snd_nil g
  | .cons a xs, X, sc, W, g => snd_cons g (snd a X sc W g) (snd xs X sc W g)
end
end EV
namespace EV
open PySem L2
/-- neither a constant for sure nor constants alone: the pair is not told ahead -/
def unf (vs : List Expr) : Bool := !(vs.all (foldedForSure 8)) && !(vs.all (constantsAlone 8))
theorem kind_loc {sc : Scope} {env : Env} {x : Str} (hs : env.scope = sc) (h : locB sc x = true) : (env.kindOf x == some .local) = true := by
  show (env.scope.names.lookup x == some .local) = true
  rw [hs]
  unfold locB at h
  split at h
  · rename_i e
    rw [e]
    rfl
  · cases h
theorem notStar {a : Expr} (h : okE a = true) : (match a with | .Starred .. => true | _ => false) = false := by
  cases a <;> first
    | rfl
    | cases h
theorem sw2 {sc : Scope} {env : Env} {x y : Str} {px py pt pt2 : Pos} {k k2 : Nat} {a b : Expr} (hk : env.scope.kind = .function) (hs : env.scope = sc) (hx : locB sc x = true) (hy : locB sc y = true) (hl : (py.line == px.line) = true) (hn : (x == y) = false) (ha : okE a = true) (hb : okE b = true) (hu : unf [a, b] = true) :
    swappedStores [.Tuple [.Name x px, .Name y py] k pt] (.Tuple [a, b] k2 pt2) env = pure (some [x, y]) := by
  obtain ⟨u1, u2⟩ := Bool.and_eq_true_iff.mp hu
  have u1' : [a, b].all (foldedForSure 8) = false := by simpa only [Bool.not_eq_true'] using u1
  have u2' : [a, b].all (constantsAlone 8) = false := by simpa only [Bool.not_eq_true'] using u2
  have hbk : env.blockKind = .function := by unfold Env.blockKind; rw [hk]; rfl
  have hd : ([x, y].eraseDups.length != [x, y].length) = false := by
    have h2 : (y == x) = false := by
      rw [beq_eq_false_iff_ne] at hn ⊢
      exact fun z => hn z.symm
    simp [List.eraseDups_cons, h2]
  unfold swappedStores
  have s1 : ([a, b].any fun x => match x with
    | .Starred .. => true
    | _ => false) = false := by
    simp only [List.any_cons, List.any_nil, Bool.or_false]
    cases a <;> first
      | (cases ha; done)
      | (cases b <;> first | rfl | (cases hb; done))
  simp only [List.length_cons, List.length_nil, hbk, s1, u1', u2', List.head?_cons, Option.map_some, Option.getD_some, Expr.pos, List.filterMap_cons, List.filterMap_nil, kind_loc hs hx, kind_loc hs hy, hl, beq_self_eq_true, Bool.and_self, if_true, hd, pure_bind]
  refine (if_neg (by decide)).trans ((if_neg ?_).trans ((if_neg ?_).trans ((if_neg Bool.false_ne_true).trans (if_neg Bool.false_ne_true))))
  · cases a <;> first
      | (cases ha; done)
      | (cases b <;> first | (cases hb; done) | (intro z; cases z))
  · show ¬ ((false || ([x, y].eraseDups.length != [x, y].length)) = true)
    rw [hd]
    decide
end EV
namespace EV
open PySem L2
theorem sw3 {sc : Scope} {env : Env} {x y w : Str} {px py pw pt pt2 : Pos} {k k2 : Nat} {a b c : Expr} (hk : env.scope.kind = .function) (hs : env.scope = sc) (hx : locB sc x = true) (hy : locB sc y = true) (hw : locB sc w = true) (hl : (py.line == px.line) = true) (hl2 : (pw.line == px.line) = true)
    (hn : (x == y) = false) (hn2 : (x == w) = false) (hn3 : (y == w) = false) (ha : okE a = true) (hb : okE b = true) (hc : okE c = true) (hu : unf [a, b, c] = true) :
    swappedStores [.Tuple [.Name x px, .Name y py, .Name w pw] k pt] (.Tuple [a, b, c] k2 pt2) env = pure (some [x, y, w]) := by
  obtain ⟨u1, u2⟩ := Bool.and_eq_true_iff.mp hu
  have u1' : [a, b, c].all (foldedForSure 8) = false := by simpa only [Bool.not_eq_true'] using u1
  have u2' : [a, b, c].all (constantsAlone 8) = false := by simpa only [Bool.not_eq_true'] using u2
  have hbk : env.blockKind = .function := by unfold Env.blockKind; rw [hk]; rfl
  have hd : ([x, y, w].eraseDups.length != [x, y, w].length) = false := by
    have h2 : (y == x) = false := by
      rw [beq_eq_false_iff_ne] at hn ⊢
      exact fun z => hn z.symm
    have h3 : (w == x) = false := by
      rw [beq_eq_false_iff_ne] at hn2 ⊢
      exact fun z => hn2 z.symm
    have h4 : (w == y) = false := by
      rw [beq_eq_false_iff_ne] at hn3 ⊢
      exact fun z => hn3 z.symm
    simp [List.eraseDups_cons, h2, h3, h4]
  unfold swappedStores
  simp only [List.length_cons, List.length_nil, hbk, u1', u2', List.head?_cons, Option.map_some, Option.getD_some, Expr.pos, List.filterMap_cons, List.filterMap_nil, kind_loc hs hx, kind_loc hs hy, kind_loc hs hw, hl, hl2, beq_self_eq_true, Bool.and_self, if_true, hd, pure_bind]
  refine (if_neg (by decide)).trans ((if_neg ?_).trans ((if_neg ?_).trans ((if_neg Bool.false_ne_true).trans (if_neg Bool.false_ne_true))))
  · have e1 : ∀ d : Expr, okE d = true → ¬ ((match d with
      | .Starred .. => true
      | _ => false) = true) := fun d hd => by
      cases d <;> first
        | (cases hd; done)
        | (intro z; cases z)
    intro z
    simp only [List.any_cons, List.any_nil, Bool.or_false, Bool.or_eq_true] at z
    rcases z with z | z | z
    · cases a <;> first
        | (cases ha; done)
        | (cases z; done)
    · cases b <;> first
        | (cases hb; done)
        | (cases z; done)
    · cases c <;> first
        | (cases hc; done)
        | (cases z; done)
  · show ¬ ((false || ([x, y, w].eraseDups.length != [x, y, w].length)) = true)
    rw [hd]
    decide
/-- constants for sure: nothing is swapped -/
theorem swF {env : Env} {ts vs : List Expr} {k k2 : Nat} {pt pt2 : Pos} (hu : vs.all (foldedForSure 8) = true) : swappedStores [.Tuple ts k pt] (.Tuple vs k2 pt2) env = pure none := by
  unfold swappedStores
  simp only [hu, if_true]
  split
  · rfl
  · split
    · rfl
    · split <;> rfl
/-- the names are not all the def's own alone: nothing is swapped -/
def locAll (sc : Scope) (es : List Expr) : Bool := es.all fun e => match e with
  | .Name x _ => locB sc x
  | _ => false
theorem fm_short {α β : Type} {f : α → Option β} : ∀ {l : List α} {a : α}, a ∈ l → f a = none → (l.filterMap f).length < l.length
  | b :: l, a, h, hf => by
    rcases List.mem_cons.mp h with rfl | h
    · rw [List.filterMap_cons, hf, List.length_cons]
      exact Nat.lt_succ_of_le (List.length_filterMap_le f l)
    · rw [List.filterMap_cons, List.length_cons]
      have ih := fm_short (l := l) h hf
      cases f b with
      | none => exact Nat.lt_succ_of_lt ih
      | some c => exact Nat.succ_lt_succ ih
theorem swC {sc : Scope} {env : Env} {ts vs : List Expr} {k k2 : Nat} {pt pt2 : Pos} (hs : env.scope = sc) (h : locAll sc ts = false) : swappedStores [.Tuple ts k pt] (.Tuple vs k2 pt2) env = pure none := by
  obtain ⟨e, he, hb⟩ : ∃ e ∈ ts, (match e with
    | .Name x _ => locB sc x
    | _ => false) = false := by
    unfold locAll at h
    rw [List.all_eq_false] at h
    obtain ⟨e, he, hb⟩ := h
    exact ⟨e, he, by simpa only [Bool.not_eq_true] using hb⟩
  have hk : ∀ x, locB sc x = false → (env.kindOf x == some .local) = false := fun x hx => by
    show (env.scope.names.lookup x == some .local) = false
    rw [hs]
    unfold locB at hx
    cases z : sc.names.lookup x with
    | none => rfl
    | some kk =>
      rw [z] at hx
      cases kk <;> first
        | rfl
        | cases hx
  unfold swappedStores
  dsimp only
  split
  · rfl
  · split
    · rfl
    · have hlt := fm_short (f := fun e : Expr => match e with
        | .Name id pos => if (env.kindOf id == some .local && pos.line == (Option.map (fun x => x.pos.line) ts.head?).getD 0) = true then some id else none
        | _ => none) he (by
          cases e <;> try rfl
          rename_i x p
          have hx : locB sc x = false := hb
          show (if (env.kindOf x == some .local && _) = true then some x else none) = none
          rw [hk x hx]
          rfl)
      rw [if_pos (by
        refine Bool.or_eq_true_iff.mpr (.inl ?_)
        refine bne_iff_ne.mpr (Nat.ne_of_lt ?_)
        exact hlt)]
end EV
/-! Statements: the text's check, what each comes to. -/
namespace EV
open PySem L2
structure ErS where
  st : Stmt → Bool
  ss : List Stmt → Bool
  hs : List ExceptHandler → Bool
def sF (f : Stmt → Bool) : ErS where
  st := f
  ss := fun xs => match xs with
    | [x] => f x
    | _ => false
  hs := fun _ => false
/-- no comprehension -/
def noC : Expr → Bool
  | .ListComp .. | .SetComp .. | .DictComp .. => false
  | _ => true
/-- a comprehension that is stored within its own block -/
def swOf (sc : Scope) (x : Str) (p : Pos) : Expr → Bool
  | .ListComp _ _ s ep => locB sc x && (p.line == ep.line) && !(s.names.any fun (n, k) => n == x && (k == .local || k == .cell))
  | .SetComp .. | .DictComp .. => true
  | _ => false
def isTup : Expr → Bool
  | .Tuple .. => true
  | _ => false
def exB (G : Cfg) (c : Nat) (x : Str) : Bool := match G.exs[c]? with
  | some y => decide (y = x)
  | none => false
/-- a tuple of values for these targets: constants for sure, or two or three plain names of one row, stored from the right -/
def parOk (sc : Scope) (es : List Expr) (is : List Nat) : Expr → Bool
  | .Tuple vs _ _ => vs.all (foldedForSure 8) || !(locAll sc es) || (match es, vs, is with
    | [.Name x px, .Name y py], [a, b], [i, j] => decide (i ≠ j) && locB sc x && locB sc y && (py.line == px.line) && !(x == y) && okE a && okE b && unf [a, b]
    | [.Name x px, .Name y py, .Name w pw], [a, b, c], [i, j, l] => decide (i ≠ j) && decide (i ≠ l) && decide (j ≠ l) && locB sc x && locB sc y && locB sc w && (py.line == px.line) && (pw.line == px.line) && !(x == y) && !(x == w) && !(y == w) && okE a && okE b && okE c && unf [a, b, c]
    | _, _, _ => false)
  | _ => true
def skipB : Stmt → Bool
  | .Pass _ => true
  | .Expr (.Constant (.str _) _ _) _ => true
  | _ => false
/-- in a def every own name may be stored -/
abbrev anyB : Str → Bool := fun _ => true
def erS (G : Cfg) (N : List Str) (sc : Scope) : SS → Bool → ErS
  | .skip, _ => ⟨skipB, fun xs => match xs with
      | [] => true
      | _ => false, fun xs => match xs with
      | [] => true
      | _ => false⟩
  | .seq s r, lv => ⟨fun _ => false, fun xs => match xs with
      | x :: xs => (erS G N sc s lv).st x && (erS G N sc r lv).ss xs
      | [] => false, fun _ => false⟩
  | .expr a, lv => sF fun x => match x with
    | .Expr e _ => (erR G N lv a sc).e e && noC e
    | _ => false
  | .asg i a, lv => sF fun x => match x with
    | .Assign [.Name x p] e _ => decide (N[i]? = some x) && stB sc anyB x && (erR G N lv a sc).e e && (!(swOf sc x p e) || lv)
    | _ => false
  | .asgT is a, lv => sF fun x => match x with
    | .Assign [.Tuple es n p] e _ => lv && tgB N sc anyB (.tp is) (.Tuple es n p) && (erR G N lv a sc).e e && parOk sc es is e
    | _ => false
  | .asgI i k a, lv => sF fun x => match x with
    | .Assign [.Subscript (.Name x p) ke _] e _ => slotB N sc i x && (erR G N lv k sc).e ke && (erR G N lv a sc).e e
    | _ => false
  | .aug i op a, lv => sF fun x => match x with
    | .AugAssign (.Name x _) o e _ => decide (o = op) && decide (N[i]? = some x) && stB sc anyB x && (erR G N lv a sc).e e
    | _ => false
  | .ret a, lv => sF fun x => match x with
    | .Return (some e) _ => (erR G N lv a sc).e e
    | _ => false
  | .retN, _ => sF fun x => match x with
    | .Return none _ => true
    | _ => false
  | .cond c a b, lv => sF fun x => match x with
    | .If t p q _ => (erR G N lv c sc).e t && (erS G N sc a lv).ss p && (erS G N sc b lv).ss q
    | _ => false
  | .forS tg it b, lv => sF fun x => match x with
    | .For t e p [] _ => lv && tgB N sc anyB tg t && (erR G N lv it sc).i e && (erS G N sc b lv).ss p
    | _ => false
  | .whil c b, lv => sF fun x => match x with
    | .While t p [] _ => (erR G N lv c sc).e t && (erS G N sc b lv).ss p
    | _ => false
  | .brk, _ => sF fun x => match x with
    | .Break _ => true
    | _ => false
  | .cont, _ => sF fun x => match x with
    | .Continue _ => true
    | _ => false
  | .raise c, lv => sF fun x => match x with
    | .Raise (some (.Call (.Name x _) [.Constant (.str _) _ _] [] _)) none _ => lv && exB G c x && glB sc x && nmB x
    | _ => false
  | .tryS b hs, lv => sF fun x => match x with
    | .Try p (h :: r) [] [] _ => lv && (erS G N sc b lv).ss p && (erS G N sc hs lv).hs (h :: r)
    | _ => false
  | .hnd c s r, lv => ⟨fun _ => false, fun _ => false, fun hs => match hs with
      | .ExceptHandler (some (.Name x _)) none (b :: p) _ :: q => exB G c x && glB sc x && nmB x && (erS G N sc s false).ss (b :: p) && (erS G N sc r lv).hs q
      | _ => false⟩
structure GoodS (G : Cfg) (fa xa : Nat → Addr) (call : Nat → List Sl → FR) (k : Nat) (lv : Bool) (X : Cx) (sc : Scope) (W : WX) : Prop extends GoodE G fa xa call k lv X sc W where
  kind : X.env.scope.kind = .function
  fn : ∀ x, X.fn x = true
  own : PassesOwn (model X.prog X.w) X.A X.env X.xe
  stk : X.stack = X.env :: X.outer
  frm : X.env.frame = some X.env.locals
section
variable (K : PySem.W.Frag) (fa xa : Nat → Addr) (io : List Bool) (W : WX)
def OutP (B : Bs) (F : Hp) (D : Ends) : Out → Prop
  | .nx e => ∀ F' σ' H', Le F F' → SR K fa B F' e σ' H' → D.nx σ' H'
  | .bk e => ∀ F' σ' H', Le F F' → SR K fa B F' e σ' H' → D.bk σ' H'
  | .ct e => ∀ F' σ' H', Le F F' → SR K fa B F' e σ' H' → D.ct σ' H'
  | .rt d fr e => ∀ F' σ' H' v, Le F F' → SR K fa B F' e σ' H' → FV K fa B F' e σ' H' d fr v → D.rt v H'
  | .er c e => ∀ F' σ' H', Le F F' → SR K fa B F' e σ' H' → W (.ref (xa c)) none σ' H'
  | .st => False
def IosOk (B : Bs) : Prop := ∀ p ∈ B.ios, ioAt io p.1 = true
def rS (x : Ev → Out) : TS := fun D σ H => ∃ B F e, IosOk io B ∧ SR K fa B F e σ H ∧ OutP K fa xa W B F D (x e)
end
section
variable {K : PySem.W.Frag} {fa xa : Nat → Addr} {io : List Bool} {W : WX} {B : Bs} {F F' H : Hp} {e : Ev} {σ : L2.St} {D : Ends}
theorem OutP.le {o : Out} (l : Le F F') (h : OutP K fa xa W B F D o) : OutP K fa xa W B F' D o := by
  cases o with
  | nx e => exact fun F1 σ' H' l' r => h F1 σ' H' (l.trans l') r
  | bk e => exact fun F1 σ' H' l' r => h F1 σ' H' (l.trans l') r
  | ct e => exact fun F1 σ' H' l' r => h F1 σ' H' (l.trans l') r
  | rt d fr e => exact fun F1 σ' H' v l' r q => h F1 σ' H' v (l.trans l') r q
  | er c e => exact fun F1 σ' H' l' r => h F1 σ' H' (l.trans l') r
  | st => exact h
theorem OutP.run {α : Type} {r : R α} {k : α → Ev → Out} (h : OutP K fa xa W B F D (r.out k)) (l : Le F F') : XP K fa xa W B F' σ r fun a e' => OutP K fa xa W B F D (k a e') := by
  cases r with
  | ok a e => exact h
  | er c e => exact fun F1 H1 l1 r1 => h F1 σ H1 (l.trans l1) r1
  | st => exact h
/-- the same but for the ends -/
theorem OutP.ends {D' : Ends} {o : Out} (h : OutP K fa xa W B F D o) (hn : ∀ e, o = .nx e → OutP K fa xa W B F D (.nx e) → OutP K fa xa W B F D' (.nx e)) (hb : ∀ e, o = .bk e → OutP K fa xa W B F D (.bk e) → OutP K fa xa W B F D' (.bk e)) (hc : ∀ e, o = .ct e → OutP K fa xa W B F D (.ct e) → OutP K fa xa W B F D' (.ct e)) (hr : D'.rt = D.rt) : OutP K fa xa W B F D' o := by
  cases o with
  | nx e => exact hn e rfl h
  | bk e => exact hb e rfl h
  | ct e => exact hc e rfl h
  | rt d fr e =>
    intro F1 σ' H' v l r q
    rw [hr]
    exact h F1 σ' H' v l r q
  | er c e => exact h
  | st => exact h
end
structure SndS (G : Cfg) (fa xa : Nat → Addr) (call : Nat → List Sl → FR) (io : List Bool) (X : Cx) (W : WX) (A : ExR) (C : ErS) : Prop where
  st : ∀ x, C.st x = true → PS X x (rS X.K fa xa io W A.x)
  ss : ∀ xs, C.ss xs = true → PSs X xs (rS X.K fa xa io W A.x)
  hs : ∀ xs, C.hs xs = true → ∃ l, HdsOk X xs l ∧ ∀ (B : Bs) (F : Hp) (D : Ends) (c : Nat) (e : Ev), IosOk io B → OutP X.K fa xa W B F D (A.h c e) → ∀ F' σ' H', Le F F' → SR X.K fa B F' e σ' H' → wMany X.K W D l (.ref (xa c)) none σ' H'
theorem PS.imp {X : Cx} {x : Stmt} {t t' : TS} (h : PS X x t) (i : ∀ D σ H, t' D σ H → t D σ H) : PS X x t' := ⟨fun pins s σ H D I q => h.run pins s σ H D I (i D σ H q)⟩
theorem PSs.imp {X : Cx} {x : List Stmt} {t t' : TS} (h : PSs X x t) (i : ∀ D σ H, t' D σ H → t D σ H) : PSs X x t' := ⟨fun pins s σ H D I q => h.run pins s σ H D I (i D σ H q)⟩
section
variable {G : Cfg} {fa xa : Nat → Addr} {call : Nat → List Sl → FR} {io : List Bool} {k : Nat} {lv : Bool} {X : Cx} {sc : Scope} {W : WX}
theorem SndS.of {x : Ev → Out} {f : Stmt → Bool} (h : ∀ y, f y = true → PS X y (rS X.K fa xa io W x)) : SndS G fa xa call io X W (ofX x) (sF f) := by
  refine ⟨h, fun xs hx => ?_, fun xs hx => nomatch hx⟩
  match xs, hx with
  | [y], hx => exact pss_one (h y hx)
abbrev SndB (G : Cfg) (fa xa : Nat → Addr) (call : Nat → List Sl → FR) (io : List Bool) (lv : Bool) (X : Cx) (sc : Scope) (W : WX) (s : SS) : Prop := SndS G fa xa call io X W (exR G call io s) (erS G X.N sc s lv)
theorem st_skip (g : GoodS G fa xa call k lv X sc W) : SndB G fa xa call io lv X sc W .skip := by
  have nx : ∀ D σ H, rS X.K fa xa io W (exR G call io .skip).x D σ H → tNext D σ H := fun D σ H ⟨B, F, e, hi, r, q⟩ => q F σ H (Le.refl F) r
  refine ⟨fun y hy => ?_, fun xs hx => ?_, fun xs hx => ?_⟩
  · have hy' : skipB y = true := hy
    unfold skipB at hy'
    split at hy'
    · exact PS.imp ps_pass nx
    · exact PS.imp ps_doc nx
    · cases hy'
  · cases xs with
    | nil => exact PSs.imp pss_nil nx
    | cons _ _ => cases hx
  · cases xs with
    | nil => exact ⟨[], .nil, fun B F D c e hi q F' σ' H' l r => q F' σ' H' l r⟩
    | cons _ _ => cases hx
theorem st_seq {s r : SS} (A : SndB G fa xa call io lv X sc W s) (C : SndB G fa xa call io lv X sc W r) : SndB G fa xa call io lv X sc W (.seq s r) := by
  refine ⟨fun y hy => (nomatch hy), fun xs hx => ?_, fun xs hx => (nomatch hx)⟩
  cases xs with
  | nil => cases hx
  | cons y ys =>
    obtain ⟨h1, h2⟩ := and2 (show ((erS G X.N sc s lv).st y && (erS G X.N sc r lv).ss ys) = true from hx)
    refine PSs.imp (pss_cons (A.st y h1) (C.ss ys h2)) fun D σ H ⟨B, F, e, hi, rr, q⟩ => ⟨B, F, e, hi, rr, ?_⟩
    have q' : OutP X.K fa xa W B F D (match (exR G call io s).x e with
      | .nx e1 => (exR G call io r).x e1
      | o => o) := q
    cases z : (exR G call io s).x e with
    | nx e1 =>
      simp only [z] at q'
      exact fun F1 σ1 H1 l r1 => ⟨B, F1, e1, hi, r1, q'.le l⟩
    | bk e1 =>
      simp only [z] at q'
      exact q'
    | ct e1 =>
      simp only [z] at q'
      exact q'
    | rt d fr e1 =>
      simp only [z] at q'
      exact q'
    | er c e1 =>
      simp only [z] at q'
      exact q'
    | st =>
      simp only [z] at q'
      exact q'
theorem sw_false {x : Expr} {t : Option Expr} {n : Nat} {env : Env} (h : noC x = true) : swapsWith x t n env = pure false := by
  cases x <;> first
    | rfl
    | cases h
theorem st_expr (g : GoodS G fa xa call k lv X sc W) (a : SE) : SndB G fa xa call io lv X sc W (.expr a) := by
  have A := snd a X sc W g.toGoodE
  refine SndS.of fun y hy => ?_
  split at hy
  · rename_i e' p
    obtain ⟨h1, h2⟩ := and2 hy
    refine PS.imp (ps_expr (A.e _ h1) (sw_false h2)) fun D σ H ⟨B, F, e, hi, r, q⟩ => ⟨B, F, e, r, (OutP.run q (Le.refl F)).imp fun x e1 _ q1 F1 H1 v l1 r1 fv => ?_⟩
    exact q1 F1 σ H1 l1 r1
  · cases hy
theorem st_ret (g : GoodS G fa xa call k lv X sc W) (a : SE) : SndB G fa xa call io lv X sc W (.ret a) := by
  have A := snd a X sc W g.toGoodE
  refine SndS.of fun y hy => ?_
  split at hy
  · rename_i e' p
    have dflt : ∀ D σ H, (∃ B F e, IosOk io B ∧ SR X.K fa B F e σ H ∧ OutP X.K fa xa W B F D (((evR G call a).f e).out fun x e1 => .rt x.1 x.2 e1)) → tRet (rF X.K fa xa W (evR G call a).f) D σ H := fun D σ H ⟨B, F, e, hi, r, q⟩ =>
      ⟨B, F, e, r, (OutP.run q (Le.refl F)).imp fun x e1 _ q1 F1 H1 v l1 r1 fv => q1 F1 σ H1 v l1 r1 fv⟩
    cases a with
    | var i =>
      have hs := (and2 (show (okE e' && _) = true from hy)).2
      cases e' <;> try (cases hs)
      rename_i x p'
      have pv : PE X (.Name x p') (tVar i) := slot_ok g.toGoodE hs
      by_cases hio : ioAt io i = true
      · refine PS.imp (ps_ret (A.e _ hy)) fun D σ H ⟨B, F, e, hi, r, q⟩ => dflt D σ H ⟨B, F, e, hi, r, ?_⟩
        have q' : OutP X.K fa xa W B F D (if ioAt io i = true then ((evR G call (.var i)).f e).out fun x e1 => .rt x.1 x.2 e1 else _) := q
        rw [if_pos hio] at q'
        exact q'
      · refine PS.imp (ps_ret pv) fun D σ H ⟨B, F, e, hi, r, q⟩ => ?_
        have q' : OutP X.K fa xa W B F D (if ioAt io i = true then ((evR G call (.var i)).f e).out fun x e1 => .rt x.1 x.2 e1 else match e.getD i .no with
          | .no => .st
          | .sh d => .rt d false e
          | .ow d => .rt d true (e.set i .no)) := q
        rw [if_neg hio] at q'
        cases z : e.getD i .no with
        | no =>
          simp only [z] at q'
          exact q'.elim
        | sh d =>
          simp only [z] at q'
          obtain ⟨w, h1, v, h2, h3⟩ := r.at (getD_sh z)
          subst h2
          exact ⟨v, h1, q' F σ H v (Le.refl F) r (FV.sh h3)⟩
        | ow d =>
          simp only [z] at q'
          obtain ⟨a, o, h1, h2, h3, h4, h5, _⟩ := r.ow (getD_ow z)
          refine ⟨.ref a, h1, q' F σ H _ (Le.refl F) (r.drop i) (FV.mk h2 h3 h4 h5 fun j d' g1 g2 => ?_)⟩
          by_cases hj : i = j
          · subst hj
            rw [List.getElem?_set_self (by
              have := (List.getElem?_eq_some_iff.mp (getD_ow z)).1
              exact this)] at g1
            cases g1
          · rw [List.getElem?_set_ne hj] at g1
            exact hj (r.inj i j d d' a (getD_ow z) g1 h1 g2)
    | _ => exact PS.imp (ps_ret (A.e _ hy)) dflt
  · cases hy
theorem st_retN (g : GoodS G fa xa call k lv X sc W) : SndB G fa xa call io lv X sc W .retN := by
  refine SndS.of fun y hy => ?_
  split at hy
  · exact PS.imp ps_retN fun D σ H ⟨B, F, e, hi, r, q⟩ => q F σ H .non (Le.refl F) r (FV.sh (by simp only [DR]))
  · cases hy
theorem st_brk (g : GoodS G fa xa call k lv X sc W) : SndB G fa xa call io lv X sc W .brk := by
  refine SndS.of fun y hy => ?_
  split at hy
  · exact PS.imp ps_break fun D σ H ⟨B, F, e, hi, r, q⟩ => q F σ H (Le.refl F) r
  · cases hy
theorem st_cont (g : GoodS G fa xa call k lv X sc W) : SndB G fa xa call io lv X sc W .cont := by
  refine SndS.of fun y hy => ?_
  split at hy
  · exact PS.imp ps_continue fun D σ H ⟨B, F, e, hi, r, q⟩ => q F σ H (Le.refl F) r
  · cases hy
theorem st_cond (g : GoodS G fa xa call k lv X sc W) (c : SE) {a b : SS} (A : SndB G fa xa call io lv X sc W a) (C : SndB G fa xa call io lv X sc W b) : SndB G fa xa call io lv X sc W (.cond c a b) := by
  have E := snd c X sc W g.toGoodE
  refine SndS.of fun y hy => ?_
  split at hy
  · rename_i t p q' ps
    obtain ⟨h1, h2, h3⟩ := and3 hy
    refine PS.imp (ps_if (E.t _ h1) (A.ss _ h2) (C.ss _ h3)) fun D σ H ⟨B, F, e, hi, r, q⟩ => ⟨B, F, e, r, (OutP.run q (Le.refl F)).imp fun x e1 _ q1 F1 H1 l1 r1 => ?_⟩
    cases x with
    | true =>
      rw [if_pos rfl]
      exact ⟨B, F1, e1, hi, r1, q1.le l1⟩
    | false =>
      rw [if_neg Bool.false_ne_true]
      exact ⟨B, F1, e1, hi, r1, q1.le l1⟩
  · cases hy
theorem er_comp {N : List Str} {a : SE} {elt : Expr} {gs : List Comprehension} {scope : Scope} {p : Pos} (h : (erR G N lv a sc).e (.ListComp elt gs scope p) = true) : ∃ el tg it c own tge ite ifs, a = .comp el tg it c own ∧ gs = [⟨tge, ite, ifs, 0⟩] ∧
    blkC N sc scope own = true ∧ (erR G N lv it sc).i ite = true ∧ tgB N (relS scope sc) (celB scope) tg tge = true ∧ tgIn (own.map (·.2)) tg = true ∧ (erR G N lv c (relS scope sc)).c ifs = true ∧ (erR G N lv el (relS scope sc)).e elt = true := by
  cases a <;> try (simp [erR, eF, eNo] at h; done)
  rename_i el tg it c own
  simp only [erR, eF] at h
  have h' := (and2 (and2 h).2).2
  clear h
  split at h'
  · rename_i e2 tge ite ifs sc2 pos z
    cases z
    obtain ⟨h', h6⟩ := and2 h'
    obtain ⟨h', h5⟩ := and2 h'
    obtain ⟨h', h4⟩ := and2 h'
    obtain ⟨h1, h2, h3⟩ := and3 h'
    exact ⟨el, tg, it, c, own, tge, ite, ifs, rfl, rfl, h1, h2, h3, h4, h5, h6⟩
  · cases h'
theorem loc_of {x : Str} (hs : X.env.scope = sc) (h : locB sc x = true) : X.env.scope.names.lookup x = some .local := by
  rw [hs]
  unfold locB at h
  split at h
  · assumption
  · cases h
theorem sw_no {x : Str} {p : Pos} {e : Expr} {n : Nat} {env : Env} (hk : env.scope.kind = .function) (h : swOf sc x p e = false) (hs : env.scope = sc) : swapsWith e (some (.Name x p)) n env = pure false := by
  cases e <;> try rfl
  case ListComp elt gs scope ep =>
    have hb : env.blockKind = .function := by unfold Env.blockKind; rw [hk]; rfl
    have h' : (locB sc x && (p.line == ep.line) && !(scope.names.any fun (n, k) => n == x && (k == .local || k == .cell))) = false := h
    have hkd : (env.kindOf x == some .local) = locB sc x := by
      show (env.scope.names.lookup x == some .local) = _
      rw [hs]
      unfold locB
      cases sc.names.lookup x with
      | none => rfl
      | some k => cases k <;> rfl
    unfold swapsWith
    show (pure (env.blockKind == .function && env.kindOf x == some .local && (p.line == ep.line) && !(scope.names.any fun (n, k) => n == x && (k == .local || k == .cell))) : Sem Bool) = pure false
    rw [hkd, hb, show (ScopeKind.function == ScopeKind.function) = true from rfl, Bool.true_and, h']
  all_goals cases h
theorem st_asg (g : GoodS G fa xa call k lv X sc W) (i : Nat) (a : SE) : SndB G fa xa call io lv X sc W (.asg i a) := by
  have A := snd a X sc W g.toGoodE
  have rd : ∀ D σ H, rS X.K fa xa io W (exR G call io (.asg i a)).x D σ H → tAsg (rF X.K fa xa W (evR G call a).f) (gName i) D σ H := fun D σ H ⟨B, F, e, hi, r, q⟩ => by
    have q' : OutP X.K fa xa W B F D (if ioAt io i = true then .st else ((evR G call a).f e).out fun x e1 => .nx (e1.set i (mkSl x.1 x.2))) := q
    by_cases hio : ioAt io i = true
    · rw [if_pos hio] at q'
      exact q'.elim
    · rw [if_neg hio] at q'
      refine ⟨B, F, e, r, (OutP.run q' (Le.refl F)).imp fun x e1 _ q1 F1 H1 v l1 r1 fv => ?_⟩
      obtain ⟨F2, l2, r2⟩ := r1.asgF (i := i) (fun p hp z => hio (by rw [← z]; exact hi p hp)) fv
      exact q1 F2 _ H1 (l1.trans l2) r2
  refine SndS.of fun y hy => ?_
  split at hy
  · rename_i x p e' ps
    obtain ⟨hy', h4⟩ := and2 hy
    clear hy
    obtain ⟨h1, h2, h3⟩ := and3 hy'
    clear hy'
    have hN := of_decide_eq_true h1
    obtain ⟨l1, l2⟩ := st_ok (fb := anyB) g.scope (fun x _ => g.fn x) h2
    by_cases hsw : swOf sc x p e' = true
    · have hlv : lv = true := by
        rw [hsw] at h4
        simpa using h4
      cases e' <;> try (cases hsw)
      case ListComp elt gs scope ep =>
        obtain ⟨s1, s2, s3⟩ := and3 (show (locB sc x && (p.line == ep.line) && !(scope.names.any fun (n, k) => n == x && (k == .local || k == .cell))) = true from hsw)
        obtain ⟨el, tg, it, c, own, tge, ite, ifs, ea, eg, g1, g2, g3, g4, g5, g6⟩ := er_comp h3
        subst ea eg
        obtain ⟨i1, i2⟩ := (snd it X sc W g.toGoodE).i tge ite g2
        refine PS.imp (ps_setLc (g := gT X.K tg) (tt := rT X.K fa xa W0 (evR G call c).t) (te := rF X.K fa xa W0 (evR G call el).f) (g.calm hlv) g.nd hN (loc_of g.scope s1) ?_ i1 (blkOk_by (by rw [g.scope]; exact g1)) (fun s H C' cl fp => tg_pg (sc := relS scope sc) ((goodBlk g.toGoodE s H scope C' cl fp).scope) blk_fn g.nd (g.calm hlv) g3)
          (fun s H C' cl fp => (snd c _ _ _ (goodBlk g.toGoodE s H scope C' cl fp)).c ifs g5) (fun s H C' cl fp => (snd el _ _ _ (goodBlk g.toGoodE s H scope C' cl fp)).e elt g6) (fun x => folded_of i2 x)) fun D σ H h => ?_
        · exact sw_true g.kind (loc_of g.scope s1) s2 (by simpa using s3)
        · exact comp_rd g4 (rd D σ H h)
      all_goals
        exfalso
        cases a <;> simp [erR, eF, eNo] at h3
    · exact PS.imp (ps_set g.nd hN l1 (A.e _ h3) (sw_no g.kind (by simpa using hsw) g.scope) l2) rd
  · cases hy
end
end EV
/-! Statements: the rest. -/
namespace EV
open PySem L2
section
variable {G : Cfg} {fa xa : Nat → Addr} {call : Nat → List Sl → FR} {io : List Bool} {k : Nat} {lv : Bool} {X : Cx} {sc : Scope} {W : WX}
theorem tg_io {tg : Tg} {B : Bs} (h : tgOk io tg = true) (hi : IosOk io B) : ∀ p ∈ B.ios, p.1 ∉ tgIx tg := fun p hp hm => by
  have h1 := hi p hp
  cases tg with
  | nm i =>
    have e : p.1 = i := by simpa [tgIx] using hm
    have h' : (!ioAt io i) = true := h
    rw [← e, h1] at h'
    cases h'
  | tp is =>
    have h' := List.all_eq_true.mp (show (is.all fun i => !ioAt io i) = true from h) p.1 hm
    rw [h1] at h'
    cases h'
theorem each_one {t : Expr} {env : Env} (h : okE t = true) : (assignEach [t] env).map (·.2) = [assign t env] := by
  cases t <;> first
    | rfl
    | cases h
theorem er_tup {N : List Str} {a : SE} {vs : List Expr} {n : Nat} {p : Pos} (h : (erR G N lv a sc).e (.Tuple vs n p) = true) : ∃ xs, a = .tup xs ∧ (erR G N lv xs sc).es vs = true := by
  cases a <;> try (simp [erR, eF, eNo] at h; done)
  rename_i xs
  exact ⟨xs, rfl, (and2 (show (okE (.Tuple vs n p) && _) = true from h)).2⟩
/-- a tuple's items, stored one after another -/
theorem par_rd {io : List Bool} {is : List Nat} {xs : SE} {D : Ends} {σ : L2.St} {H : Hp} (h : rS X.K fa xa io W (exR G call io (.asgT is (.tup xs))).x D σ H) : rBs X.K fa xa W (evR G call xs).bs σ H fun vs H1 => gTs is vs σ H1 D.nx := by
  obtain ⟨B, F, e, hi, r, q⟩ := h
  have q' : OutP X.K fa xa W B F D (if is.all (fun i => !ioAt io i) = true then ((((evR G call xs).bs e).bind fun bs e1 => match ress e1 bs with
    | some ds => if lineOk ds.length then .ok (.tup ds, false) (frzs e1 bs) else .st
    | none => .st) : R (EV.D × Bool)).out fun x e1 => match tgD (.tp is) x.1 e1 with
      | some e2 => .nx e2
      | none => .st
    else .st) := q
  by_cases hio : is.all (fun i => !ioAt io i) = true
  · rw [if_pos hio] at q'
    have q2 := OutP.run (σ := σ) q' (Le.refl F)
    refine ⟨B, F, e, r, (XP.run q2 (Le.refl F)).imp fun bs e1 _ q3 F1 H1 vs l1 r1 bv => ?_⟩
    cases z : ress e1 bs with
    | none =>
      simp only [z] at q3
      exact q3.elim
    | some ds =>
      simp only [z] at q3
      split at q3
      · obtain ⟨F2, l2, r2, dr⟩ := SR.frzBs r1 bv z
        have q4 : OutP X.K fa xa W B F D (match setAll is ds (frzs e1 bs) with
          | some e2 => .nx e2
          | none => .st) := q3
        cases z2 : setAll is ds (frzs e1 bs) with
        | none =>
          simp only [z2] at q4
          exact q4.elim
        | some e2 =>
          simp only [z2] at q4
          exact gTs_ok r2 dr z2 (tg_io (tg := .tp is) hio hi) fun σ' r3 _ _ => q4 F2 σ' H1 (l1.trans l2) r3
      · exact q3.elim
  · rw [if_neg hio] at q'
    exact q'.elim
theorem st_asgT (g : GoodS G fa xa call k lv X sc W) (is : List Nat) (a : SE) : SndB G fa xa call io lv X sc W (.asgT is a) := by
  have A := snd a X sc W g.toGoodE
  refine SndS.of fun y hy => ?_
  split at hy
  · rename_i es n p e' ps
    obtain ⟨hy', h4⟩ := and2 hy
    clear hy
    obtain ⟨h1, h2, h3⟩ := and3 hy'
    clear hy'
    have hs : swapsWithSole [.Tuple es n p] e' ps.line X.env = pure false := by
      cases e' <;> first
        | rfl
        | (exfalso; cases a <;> (simp [erR, eF, eNo] at h3; done))
        | skip
      all_goals rfl
    have plain : swappedStores [.Tuple es n p] e' X.env = pure none → PS X (.Assign [.Tuple es n p] e' ps) (rS X.K fa xa io W (exR G call io (.asgT is a)).x) := fun sw => by
      refine PS.imp (ps_asg (A.e _ h3) (tg_pg g.scope (fun x _ => g.fn x) g.nd (g.calm h1) h2) hs sw) fun D σ H ⟨B, F, e, hi, r, q⟩ => ?_
      have q' : OutP X.K fa xa W B F D (if is.all (fun i => !ioAt io i) = true then ((evR G call a).f e).out fun x e1 => match tgD (.tp is) x.1 e1 with
        | some e2 => .nx e2
        | none => .st
      else .st) := q
      by_cases hio : is.all (fun i => !ioAt io i) = true
      · rw [if_pos hio] at q'
        refine ⟨B, F, e, r, (OutP.run q' (Le.refl F)).imp fun x e1 _ q1 F1 H1 v l1 r1 fv => ?_⟩
        obtain ⟨F2, l2, r2, dv⟩ := r1.freeze fv
        cases z : tgD (.tp is) x.1 e1 with
        | none =>
          simp only [z] at q1
          exact q1.elim
        | some e2 =>
          simp only [z] at q1
          exact gT_ok r2 dv z (tg_io (tg := .tp is) hio hi) fun σ' r3 _ _ => q1 F2 σ' H1 (l1.trans l2) r3
      · rw [if_neg hio] at q'
        exact q'.elim
    by_cases ht : isTup e' = true
    · cases e' <;> try (cases ht)
      rename_i vs n2 p2
      rcases Bool.or_eq_true_iff.mp (show (vs.all (foldedForSure 8) || !(locAll sc es) || _) = true from h4) with hu | hu
      · rcases Bool.or_eq_true_iff.mp hu with hu | hu
        · exact plain (swF hu)
        · exact plain (swC g.scope (by simpa using hu))
      · obtain ⟨xs, ea, hxs⟩ := er_tup h3
        subst ea
        have C := snd xs X sc W g.toGoodE
        split at hu
        · rename_i x px y py va vb i j
          obtain ⟨hu, u8⟩ := and2 hu
          obtain ⟨hu, u7⟩ := and2 hu
          obtain ⟨hu, u6⟩ := and2 hu
          obtain ⟨hu, u5⟩ := and2 hu
          obtain ⟨hu, u4⟩ := and2 hu
          obtain ⟨u1, u2, u3⟩ := and3 hu
          obtain ⟨t1, t2, _⟩ := and3 (show (decide (X.N[i]? = some x) && stB sc anyB x && tgB.tgs X.N sc anyB [j] [.Name y py]) = true from h2)
          obtain ⟨t3, _⟩ := and2 (show (decide (X.N[j]? = some y) && stB sc anyB y && true) = true from (and3 (show (decide (X.N[i]? = some x) && stB sc anyB x && tgB.tgs X.N sc anyB [j] [.Name y py]) = true from h2)).2.2)
          have t3 := (and2 t3).1
          refine PS.imp (ps_par (g.calm h1) g.nd (of_decide_eq_true t1) (of_decide_eq_true t3) (of_decide_eq_true u1) (loc_of g.scope u2) (loc_of g.scope u3) (C.es _ hxs) (sw2 g.kind g.scope u2 u3 u4 (by simpa using u5) u6 u7 u8) hs) fun D σ H h => ?_
          obtain ⟨B, F, e, r, q⟩ := par_rd h
          refine ⟨B, F, e, r, q.imp fun bs e1 _ q1 F1 H1 vs l1 r1 bv => ?_⟩
          obtain ⟨v, rr, e1, v2, rr2, e2, e3, q2⟩ := q1 F1 H1 vs l1 r1 bv
          subst e1 e2 e3
          exact ⟨v, v2, rfl, q2⟩
        · rename_i x px y py w pw va vb vc i j l
          obtain ⟨hu, u15⟩ := and2 hu
          obtain ⟨hu, u14⟩ := and2 hu
          obtain ⟨hu, u13⟩ := and2 hu
          obtain ⟨hu, u12⟩ := and2 hu
          obtain ⟨hu, u11⟩ := and2 hu
          obtain ⟨hu, u10⟩ := and2 hu
          obtain ⟨hu, u9⟩ := and2 hu
          obtain ⟨hu, u8⟩ := and2 hu
          obtain ⟨hu, u7⟩ := and2 hu
          obtain ⟨hu, u6⟩ := and2 hu
          obtain ⟨hu, u5⟩ := and2 hu
          obtain ⟨hu, u4⟩ := and2 hu
          obtain ⟨u1, u2, u3⟩ := and3 hu
          obtain ⟨t1, _, h2'⟩ := and3 (show (decide (X.N[i]? = some x) && stB sc anyB x && tgB.tgs X.N sc anyB [j, l] [.Name y py, .Name w pw]) = true from h2)
          obtain ⟨t2, _, h2''⟩ := and3 (show (decide (X.N[j]? = some y) && stB sc anyB y && tgB.tgs X.N sc anyB [l] [.Name w pw]) = true from h2')
          obtain ⟨t3, _, _⟩ := and3 (show (decide (X.N[l]? = some w) && stB sc anyB w && true) = true from h2'')
          refine PS.imp (ps_par3 (g.calm h1) g.nd (of_decide_eq_true t1) (of_decide_eq_true t2) (of_decide_eq_true t3) (of_decide_eq_true u1) (of_decide_eq_true u2) (of_decide_eq_true u3) (loc_of g.scope u4) (loc_of g.scope u5) (loc_of g.scope u6) (C.es _ hxs) (sw3 g.kind g.scope u4 u5 u6 u7 u8 (by simpa using u9) (by simpa using u10) (by simpa using u11) u12 u13 u14 u15) hs) fun D σ H h => ?_
          obtain ⟨B, F, e, r, q⟩ := par_rd h
          refine ⟨B, F, e, r, q.imp fun bs e1 _ q1 F1 H1 vs l1 r1 bv => ?_⟩
          obtain ⟨v, rr, e1, v2, rr2, e2, v3, rr3, e3, e4, q2⟩ := q1 F1 H1 vs l1 r1 bv
          subst e1 e2 e3 e4
          exact ⟨v, v2, v3, rfl, q2⟩
        · cases hu
    · exact plain (by cases e' <;> first | rfl | exact absurd rfl ht)
  · cases hy
theorem st_asgI (g : GoodS G fa xa call k lv X sc W) (i : Nat) (kx a : SE) : SndB G fa xa call io lv X sc W (.asgI i kx a) := by
  have A := snd a X sc W g.toGoodE
  have C := snd kx X sc W g.toGoodE
  refine SndS.of fun y hy => ?_
  split at hy
  · rename_i x p ke sp e' ps
    obtain ⟨h1, h2, h3⟩ := and3 hy
    clear hy
    have hv : PE X (.Name x p) (tVar i) := slot_ok g.toGoodE h1
    have ok2 := C.ok _ h2
    have hs : swapsWithSole [.Subscript (.Name x p) ke sp] e' ps.line X.env = pure false := by
      cases e' <;> rfl
    have pg : PG X (.Subscript (.Name x p) ke sp) (gSub (tVar i) (rF X.K fa xa W (evR G call kx).f) (rSetD X.K fa i)) := pg_sub hv (C.e _ h2) (set_ok i) (by
      intro v
      cases ke <;> first
        | rfl
        | cases ok2)
    refine PS.imp (ps_asg (A.b _ h3) pg hs rfl) fun D σ H ⟨B, F, e, hi, r, q⟩ => ?_
    have q' : OutP X.K fa xa W B F D (((evR G call a).b e).out fun y e1 => match e1.getD i .no with
      | .ow _ => ((evR G call kx).f e1).out fun j e2 => match y.res e2 with
        | some d => match (y.frz e2).getD i .no with
          | .ow c => match setD c j.1 d with
            | some c' => .nx ((y.frz e2).set i (.ow c'))
            | none => .st
          | _ => .st
        | none => .st
      | _ => .st) := q
    refine ⟨B, F, e, r, (OutP.run q' (Le.refl F)).imp fun b e1 _ q1 F1 H1 v l1 r1 bv => ?_⟩
    cases y1 : e1.getD i .no with
    | no =>
      simp only [y1] at q1
      exact q1.elim
    | sh _ =>
      simp only [y1] at q1
      exact q1.elim
    | ow d0 =>
    simp only [y1] at q1
    obtain ⟨w0, o0, hw, _⟩ := r1.ow (getD_ow y1)
    obtain ⟨w, ew⟩ : ∃ w : V, w = .ref w0 := ⟨_, rfl⟩
    rw [← ew] at hw
    refine ⟨w, hw, B, F1, e1, r1, (OutP.run q1 l1).imp fun j e2 _ q2 F2 H2 u l2 r2 fj => ?_⟩
    obtain ⟨F3, l3, r3, dj⟩ := r2.freeze fj
    cases z : b.res e2 with
    | none =>
      simp only [z] at q2
      exact q2.elim
    | some d =>
      simp only [z] at q2
      obtain ⟨F4, l4, r4, dd, _⟩ := r3.frzB (BV.le (l2.trans l3) bv) z
      cases z2 : (b.frz e2).getD i .no with
      | no =>
        simp only [z2] at q2
        exact q2.elim
      | sh _ =>
        simp only [z2] at q2
        exact q2.elim
      | ow c =>
        simp only [z2] at q2
        cases z3 : setD c j.1 d with
        | none =>
          simp only [z3] at q2
          exact q2.elim
        | some c' =>
          simp only [z3] at q2
          refine ⟨B, F4, b.frz e2, σ, c, j.1, d, c', r4, hw, getD_ow z2, DR.le l4 _ _ dj, dd, z3, fun F' H' l' r' => ?_⟩
          exact q2 F' σ H' (((l1.trans l2).trans (l3.trans l4)).trans l') r'
  · cases hy
theorem op_aug (op : Operator) : OpR X (inplaceOp op) (rTwo X.K fa fun d d' => (augD op d d').map fun r => (r, false)) := by
  intro pins s σ H x y v u Q I rx ry h
  obtain ⟨B, F, e, τ, d, d', r, fr, hr, cx, cy, hg, q⟩ := h
  obtain ⟨z, hz, e1⟩ := map_fst hg
  cases e1
  unfold augD at hz
  split at hz
  · cases hz
    simp only [CR, DR] at cx cy
    exact iop_add pins s σ H x y v u Q I rx ry ⟨_, _, cx, cy, q.flat hr (by simp only [DR])⟩
  · cases hz
    simp only [CR, DR] at cx cy
    exact iop_sub pins s σ H x y v u Q I rx ry ⟨_, _, cx, cy, q.flat hr (by simp only [DR])⟩
  · cases hz
    simp only [CR, DR] at cx cy
    exact iop_xor pins s σ H x y v u Q I rx ry ⟨_, _, cx, cy, q.flat hr (by simp only [DR])⟩
  · split at hz
    · rename_i a b hl
      cases hz
      simp only [CR, DR] at cx cy
      have hl' : a.length + b.length ≤ sizeLine := of_decide_eq_true hl
      refine iop_add_str pins s σ H x y v u Q I rx ry ⟨_, _, cx, cy, by simpa [Str.length] using hl', q.flat hr ?_⟩
      simp only [DR]
      congr 1
      show (⟨a.toArray ++ b.toArray⟩ : Str) = _
      simp
    · cases hz
  · cases hz
theorem st_aug (g : GoodS G fa xa call k lv X sc W) (i : Nat) (op : Operator) (a : SE) : SndB G fa xa call io lv X sc W (.aug i op a) := by
  have A := snd a X sc W g.toGoodE
  refine SndS.of fun y hy => ?_
  split at hy
  · rename_i x p o e' ps
    obtain ⟨hy', h4⟩ := and2 hy
    clear hy
    obtain ⟨h1, h2, h3⟩ := and3 hy'
    clear hy'
    have e1 : o = op := of_decide_eq_true h1
    subst e1
    obtain ⟨l1, l2⟩ := st_ok (fb := anyB) g.scope (fun x _ => g.fn x) h3
    refine PS.imp (ps_aug g.nd (of_decide_eq_true h2) l1 (A.e _ h4) (op_aug (fa := fa) o) l2) fun D σ H ⟨B, F, e, hi, r, q⟩ => ?_
    have q' : OutP X.K fa xa W B F D (if ioAt io i = true then .st else match e.getD i .no with
      | .sh d => ((evR G call a).f e).out fun x e1 => (R.of (augD o d x.1) e1).out fun z e2 => .nx (e2.set i (.sh z))
      | _ => .st) := q
    by_cases hio : ioAt io i = true
    · rw [if_pos hio] at q'
      exact q'.elim
    · rw [if_neg hio] at q'
      cases z : e.getD i .no with
      | no =>
        simp only [z] at q'
        exact q'.elim
      | ow _ =>
        simp only [z] at q'
        exact q'.elim
      | sh d =>
        simp only [z] at q'
        obtain ⟨w, h1, v, h2, h3⟩ := r.at (getD_sh z)
        subst h2
        refine ⟨v, h1, B, F, e, r, (OutP.run q' (Le.refl F)).imp fun y e1 _ q1 F1 H1 u l1 r1 fv => ?_⟩
        obtain ⟨F2, l2, r2, dv⟩ := r1.freeze fv
        cases hz : augD o d y.1 with
        | none =>
          rw [hz] at q1
          exact q1.elim
        | some zz =>
          rw [hz] at q1
          refine ⟨B, F2, e1, σ, d, y.1, zz, false, r2, DR.cr r2.sub (DR.le (l1.trans l2) _ _ h3), DR.cr r2.sub dv, by simp only [hz]; rfl, fun F3 H3 w' l3 r3 fw => ?_⟩
          exact q1 F3 _ H3 ((l1.trans l2).trans l3) (r3.asgSh (fun p hp z => hio (by rw [← z]; exact hi p hp)) fw.dr)
  · cases hy
theorem st_whil (g : GoodS G fa xa call k lv X sc W) (c : SE) {b : SS} (A : SndB G fa xa call io lv X sc W b) : SndB G fa xa call io lv X sc W (.whil c b) := by
  have C := snd c X sc W g.toGoodE
  refine SndS.of fun y hy => ?_
  split at hy
  · rename_i t p ps
    obtain ⟨h1, h2⟩ := and2 hy
    refine PS.imp (ps_while g.own (C.t _ h1) (A.ss _ h2)) fun D σ H ⟨B, F, e, hi, r, q⟩ => ?_
    have q' : OutP X.K fa xa W B F D (whileL (evR G call c).t (exR G call io b).x G.fuel e) := q
    refine ⟨fun m σ H => ∃ F' e, Le F F' ∧ SR X.K fa B F' e σ H ∧ OutP X.K fa xa W B F' D (whileL (evR G call c).t (exR G call io b).x m e), ⟨G.fuel, F, e, Le.refl F, r, q'⟩, ?_⟩
    rintro m σ1 H1 ⟨F1, e1, l1, r1, q1⟩
    cases m with
    | zero => exact q1.elim
    | succ m =>
      unfold whileL at q1
      refine ⟨B, F1, e1, r1, ?_⟩
      cases ht : (evR G call c).t e1 with
      | st =>
        simp only [ht] at q1
        exact q1.elim
      | er c' e2 =>
        simp only [ht] at q1
        exact fun F2 H2 l2 r2 => q1 F2 σ1 H2 l2 r2
      | ok kk e2 =>
        intro F2 H2 l2 r2
        cases kk with
        | false =>
          simp only [ht] at q1
          rw [if_neg Bool.false_ne_true]
          exact q1 F2 σ1 H2 l2 r2
        | true =>
          simp only [ht] at q1
          rw [if_pos rfl]
          refine ⟨fun σ H => ∃ F' e, Le F F' ∧ SR X.K fa B F' e σ H ∧ OutP X.K fa xa W B F' D (whileL (evR G call c).t (exR G call io b).x m e), fun σ' H' n => ⟨m, Nat.lt_succ_self m, n⟩, B, F2, e2, hi, r2, ?_⟩
          have q2 := q1.le l2
          cases hb : (exR G call io b).x e2 with
          | nx e3 =>
            simp only [hb] at q2
            exact fun F3 σ3 H3 l3 r3 => ⟨F3, e3, (l1.trans l2).trans l3, r3, q2.le l3⟩
          | ct e3 =>
            simp only [hb] at q2
            exact fun F3 σ3 H3 l3 r3 => ⟨F3, e3, (l1.trans l2).trans l3, r3, q2.le l3⟩
          | bk e3 =>
            simp only [hb] at q2
            exact q2
          | rt d fr e3 =>
            simp only [hb] at q2
            exact q2
          | er c' e3 =>
            simp only [hb] at q2
            exact q2
          | st =>
            simp only [hb] at q2
            exact q2
  · cases hy
theorem st_for (g : GoodS G fa xa call k lv X sc W) (tg : Tg) (it : SE) {b : SS} (A : SndB G fa xa call io lv X sc W b) : SndB G fa xa call io lv X sc W (.forS tg it b) := by
  have C := snd it X sc W g.toGoodE
  refine SndS.of fun y hy => ?_
  split at hy
  · rename_i t e' p ps
    obtain ⟨hy', h4⟩ := and2 hy
    clear hy
    obtain ⟨h1, h2, h3⟩ := and3 hy'
    clear hy'
    obtain ⟨i1, i2⟩ := C.i t e' h3
    refine PS.imp (ps_for g.own (g.calm h1) i1 (tg_pg g.scope (fun x _ => g.fn x) g.nd (g.calm h1) h2) (A.ss _ h4) (fun x => folded_of i2 x)) fun D σ H ⟨B, F, e, hi, r, q⟩ => ?_
    have q' : OutP X.K fa xa W B F D (if tgOk io tg = true then ((evR G call it).i e).out fun ds e1 => forL tg (exR G call io b).x ds e1 else .st) := q
    by_cases hio : tgOk io tg = true
    · rw [if_pos hio] at q'
      refine ⟨B, F, e, r, (OutP.run q' (Le.refl F)).imp fun ds e1 _ q1 F1 H1 J l1 r1 wd => ?_⟩
      obtain ⟨Gp, Y, wk, hg, hyl⟩ := wd
      refine for_it wk (fun i σ H => ∃ F2 e, Le F1 F2 ∧ SR X.K fa B F2 e σ H ∧ OutP X.K fa xa W B F2 D (forL tg (exR G call io b).x (ds.drop i) e)) ⟨F1, e1, Le.refl F1, r1, by rw [List.drop_zero]; exact q1.le l1⟩ ?_ ?_ ?_
      · rintro i σ2 H2 _ ⟨F2, e2, l2, r2, _⟩
        exact hg H2 (l2.trans r2.sub)
      · rintro i x σ2 H2 H3 hi' ⟨F2, e2, l2, r2, q2⟩ yl
        obtain ⟨F3, d, hd, l3, r3, dr⟩ := hyl i H2 x H3 B F2 e2 σ2 hi' l2 r2 yl
        have hdrop : ds.drop i = d :: ds.drop (i + 1) := by
          obtain ⟨hlt, hv⟩ := List.getElem?_eq_some_iff.mp hd
          rw [List.drop_eq_getElem_cons hlt, hv]
        rw [hdrop] at q2
        unfold forL at q2
        cases htg : tgD tg d e2 with
        | none =>
          simp only [htg] at q2
          exact q2.elim
        | some e3 =>
          simp only [htg] at q2
          refine gT_ok r3 dr htg (tg_io hio hi) fun σ3 r4 _ _ => ⟨B, F3, e3, hi, r4, ?_⟩
          have q3 := q2.le l3
          cases hb : (exR G call io b).x e3 with
          | nx e4 =>
            simp only [hb] at q3
            exact fun F4 σ4 H4 l4 r5 => ⟨F4, e4, (l2.trans l3).trans l4, r5, q3.le l4⟩
          | ct e4 =>
            simp only [hb] at q3
            exact fun F4 σ4 H4 l4 r5 => ⟨F4, e4, (l2.trans l3).trans l4, r5, q3.le l4⟩
          | bk e4 =>
            simp only [hb] at q3
            exact q3
          | rt d fr e4 =>
            simp only [hb] at q3
            exact q3
          | er c' e4 =>
            simp only [hb] at q3
            exact q3
          | st =>
            simp only [hb] at q3
            exact q3
      · rintro σ2 H2 ⟨F2, e2, l2, r2, q2⟩
        rw [List.drop_length] at q2
        exact q2 F2 σ2 H2 (Le.refl F2) r2
    · rw [if_neg hio] at q'
      exact q'.elim
  · cases hy
theorem ex_ok (g : GoodS G fa xa call k lv X sc W) {c : Nat} {x : Str} (h : exB G c x = true) : G.exs[c]? = some x := by
  unfold exB at h
  split at h
  · rename_i y hy
    rw [hy]
    exact congrArg some (of_decide_eq_true h)
  · cases h
theorem st_raise (g : GoodS G fa xa call k lv X sc W) (c : Nat) : SndB G fa xa call io lv X sc W (.raise c) := by
  refine SndS.of fun y hy => ?_
  split at hy
  · rename_i x p m j p2 pos ps
    obtain ⟨hy', h4⟩ := and2 hy
    clear hy
    obtain ⟨h1, h2, h3⟩ := and3 hy'
    clear hy'
    obtain ⟨f1, f2, f3, f4, f5⟩ := g.facts.exc c x (ex_ok g h2)
    exact PS.imp (ps_raise (g.calm h1) g.tk (pmk_own PySem.F.excBase_ValueError f2 f1 f3 (raises_own f4 f5) (gl_ok g.toGoodE h3) (nm_ok h4).1)) fun D σ H ⟨B, F, e, hi, r, q⟩ => q F σ H (Le.refl F) r
  · cases hy
theorem st_try (g : GoodS G fa xa call k lv X sc W) {b hs : SS} (A : ∀ X sc W, GoodS G fa xa call k lv X sc W → SndB G fa xa call io lv X sc W b) (C : SndB G fa xa call io lv X sc W hs) : SndB G fa xa call io lv X sc W (.tryS b hs) := by
  refine SndS.of fun y hy => ?_
  split at hy
  · rename_i p h r ps
    obtain ⟨h1, h2, h3⟩ := and3 hy
    obtain ⟨l, hl, hw⟩ := C.hs _ h3
    refine PS.imp (ps_try_many g.stk g.frm g.tk (tb := fun W => rS X.K fa xa io W (exR G call io b).x) (fun W' pn xe tk po => (A (X.tr pn xe) sc W' { g with tk := tk, own := po }).ss _ h2) hl) fun D σ H ⟨B, F, e, hi, r, q⟩ => ⟨B, F, e, hi, r, ?_⟩
    have q' : OutP X.K fa xa W B F D (match (exR G call io b).x e with
      | .er c e1 => (exR G call io hs).h c e1
      | o => o) := q
    cases hb : (exR G call io b).x e with
    | er c e1 =>
      simp only [hb] at q'
      exact fun F' σ' H' l' r' => hw B F D c e1 hi q' F' σ' H' l' r'
    | nx e1 =>
      simp only [hb] at q'
      exact q'
    | ct e1 =>
      simp only [hb] at q'
      exact q'
    | bk e1 =>
      simp only [hb] at q'
      exact q'
    | rt d fr e1 =>
      simp only [hb] at q'
      exact q'
    | st =>
      simp only [hb] at q'
      exact q'
  · cases hy
theorem suite_ok (g : GoodS G fa xa call k lv X sc W) (a : Addr) (pn : List (Addr × Obj)) : GoodS G fa xa call k false (X.suite a pn) sc W0 where
  scope := g.scope
  nd := g.nd
  un := g.un
  calm := fun h => nomatch h
  room := fun h => nomatch h
  tk := takes0
  facts := g.facts
  calls := g.calls
  kind := g.kind
  fn := g.fn
  own := PassesOwn.never
  stk := g.stk
  frm := g.frm
theorem st_hnd (g : GoodS G fa xa call k lv X sc W) (c : Nat) {s r : SS} (A : ∀ X sc W, GoodS G fa xa call k false X sc W → SndB G fa xa call io false X sc W s) (C : SndB G fa xa call io lv X sc W r) : SndB G fa xa call io lv X sc W (.hnd c s r) := by
  refine ⟨fun _ h => (nomatch h), fun _ h => (nomatch h), fun xs hx => ?_⟩
  have hx' := hx
  clear hx
  unfold erS at hx'
  dsimp only at hx'
  split at hx'
  · rename_i x np b p pos q
    obtain ⟨hx', h5⟩ := and2 hx'
    obtain ⟨hx', h4⟩ := and2 hx'
    obtain ⟨h1, h2, h3⟩ := and3 hx'
    obtain ⟨f1, _⟩ := g.facts.exc c x (ex_ok g h1)
    obtain ⟨l, hl, hw⟩ := C.hs q h5
    refine ⟨_, .cons (c := .ref (xa c)) (ts := fun _ _ _ => rS X.K fa xa io W0 (exR G call io s).x) ⟨gl_ok g.toGoodE h2, (nm_ok h3).1, .inl f1⟩ (fun a oe cls d pn _ _ => (A _ sc W0 (suite_ok g a ((a, oe) :: pn))).ss _ h4) hl, ?_⟩
    intro B F D c' e hi q F' σ' H' l' r'
    have q' : OutP X.K fa xa W B F D (if c' < G.exs.length then (if isHd G c c' then (match (exR G call io s).x e with
      | .er _ _ => .st
      | o => o) else (exR G call io r).h c' e) else .st) := q
    by_cases hc : c' < G.exs.length
    · rw [if_pos hc] at q'
      have hm := g.facts.sub c' c (G.exs[c']) x (List.getElem?_eq_getElem hc) (ex_ok g h1)
      refine ⟨isHd G c c', hm, fun hb a ha => ?_, fun hb => ?_⟩
      · rw [if_pos hb] at q'
        refine ⟨B, F', e, hi, r', ?_⟩
        have q2 := q'.le l'
        cases hz : (exR G call io s).x e with
        | er c2 e1 =>
          simp only [hz] at q2
          exact q2.elim
        | nx e1 =>
          simp only [hz] at q2
          exact q2
        | ct e1 =>
          simp only [hz] at q2
          exact q2
        | bk e1 =>
          simp only [hz] at q2
          exact q2
        | rt d fr e1 =>
          simp only [hz] at q2
          exact q2
        | st =>
          simp only [hz] at q2
          exact q2
      · rw [if_neg (by rw [hb]; exact Bool.false_ne_true)] at q'
        exact hw B F D c' e hi q' F' σ' H' l' r'
    · rw [if_neg hc] at q'
      exact q'.elim
  · cases hx'
end
end EV
/-! Every statement; the defs. -/
namespace EV
open PySem L2
section
variable {G : Cfg} {fa xa : Nat → Addr} {call : Nat → List Sl → FR} {io : List Bool} {k : Nat}
theorem sndS : ∀ (s : SS) (lv : Bool) (X : Cx) (sc : Scope) (W : WX), GoodS G fa xa call k lv X sc W → SndB G fa xa call io lv X sc W s
  | .skip, lv, X, sc, W, g => st_skip g
  | .seq s r, lv, X, sc, W, g => st_seq (sndS s lv X sc W g) (sndS r lv X sc W g)
  | .expr a, lv, X, sc, W, g => st_expr g a
  | .asg i a, lv, X, sc, W, g => st_asg g i a
  | .asgT is a, lv, X, sc, W, g => st_asgT g is a
  | .asgI i kx a, lv, X, sc, W, g => st_asgI g i kx a
  | .aug i op a, lv, X, sc, W, g => st_aug g i op a
  | .ret a, lv, X, sc, W, g => st_ret g a
  | .retN, lv, X, sc, W, g => st_retN g
  | .cond c a b, lv, X, sc, W, g => st_cond g c (sndS a lv X sc W g) (sndS b lv X sc W g)
  | .forS tg it b, lv, X, sc, W, g => st_for g tg it (sndS b lv X sc W g)
  | .whil c b, lv, X, sc, W, g => st_whil g c (sndS b lv X sc W g)
  | .brk, lv, X, sc, W, g => st_brk g
  | .cont, lv, X, sc, W, g => st_cont g
  | .raise c, lv, X, sc, W, g => st_raise g c
  | .tryS b hs, lv, X, sc, W, g => st_try g (fun X sc W g => sndS b lv X sc W g) (sndS hs lv X sc W g)
  | .hnd c s r, lv, X, sc, W, g => st_hnd g c (fun X sc W g => sndS s false X sc W g) (sndS r lv X sc W g)
end
/-! ### a def -/
def plainB (ps : List Str) (a : Arguments) : Bool := a.posonlyargs.isEmpty && a.vararg.isNone && a.kwonlyargs.isEmpty && a.kwarg.isNone && a.defaults.isEmpty && decide (a.args.map (·.arg) = ps) && decide ps.Nodup
theorem zip_look : ∀ {ps : List Str} {us : List Value}, us.length = ps.length → ∀ n ∈ ps, ((ps.zip us).lookup n).isNone = false
  | [], _, _, n, h => by cases h
  | p :: ps, [], hl, n, h => by cases hl
  | p :: ps, u :: us, hl, n, h => by
    show (List.lookup n ((p, u) :: ps.zip us)).isNone = false
    rw [List.lookup_cons]
    cases e : n == p with
    | true => rfl
    | false =>
      rcases List.mem_cons.mp h with z | z
      · subst z
        simp at e
      · exact zip_look (by simpa using hl) n z
theorem zip_none {ps : List Str} {us : List Value} (hl : us.length = ps.length) : ps.filter (fun n => ((ps.zip us).lookup n).isNone) = [] := by
  refine List.filter_eq_nil_iff.mpr fun n hn => ?_
  rw [zip_look hl n hn]
  exact Bool.false_ne_true
theorem fm_congr {α β : Type} {f g : α → Option β} : ∀ {l : List α}, (∀ x ∈ l, f x = g x) → l.filterMap f = l.filterMap g
  | [], _ => rfl
  | x :: l, h => by
    rw [List.filterMap_cons, List.filterMap_cons, h x List.mem_cons_self, fm_congr fun y hy => h y (List.mem_cons_of_mem _ hy)]
theorem zip_all : ∀ {ps : List Str} {us : List Value}, us.length = ps.length → ps.Nodup → ps.filterMap (fun n => ((ps.zip us).lookup n).map fun v => (n, v)) = ps.zip us
  | [], _, _, _ => by simp
  | p :: ps, [], hl, _ => by cases hl
  | p :: ps, u :: us, hl, nd => by
    obtain ⟨h1, h2⟩ := List.nodup_cons.mp nd
    have ih := zip_all (ps := ps) (us := us) (by simpa using hl) h2
    show List.filterMap (fun n => (List.lookup n ((p, u) :: ps.zip us)).map fun v => (n, v)) (p :: ps) = (p, u) :: ps.zip us
    rw [List.filterMap_cons, List.lookup_cons]
    simp only [beq_self_eq_true, Option.map_some]
    congr 1
    refine Eq.trans (fm_congr fun n hn => ?_) ih
    rw [List.lookup_cons]
    have : (n == p) = false := by
      refine beq_eq_false_iff_ne.mpr fun e => ?_
      subst e
      exact h1 hn
    simp only [this]
theorem plain_bind {x qual : Str} {params : Arguments} {body : List Stmt} {scope : Scope} {kV doc pm : Value} {an : Option Addr} {cdv ct : Value} {ps : List Str} {us : List Value} (h : plainB ps params = true) (hl : us.length = ps.length) :
    bindArgs (PySem.W.fnOf x qual params body scope .none kV doc pm an cdv ct) ⟨us, []⟩ = pure (ps.zip us) := by
  obtain ⟨po, as, va, ko, kd, kw, df⟩ := params
  obtain ⟨h, h7⟩ := and2 h
  obtain ⟨h, h6⟩ := and2 h
  obtain ⟨h, h5⟩ := and2 h
  obtain ⟨h, h4⟩ := and2 h
  obtain ⟨h1, h2, h3⟩ := and3 h
  have h6' : as.map (·.arg) = ps := of_decide_eq_true h6
  have h7' := of_decide_eq_true h7
  cases po with
  | cons _ _ => cases h1
  | nil =>
  cases va with
  | some _ => cases h2
  | none =>
  cases ko with
  | cons _ _ => cases h3
  | nil =>
  cases kw with
  | some _ => cases h4
  | none =>
  cases df with
  | cons _ _ => cases h5
  | nil =>
  unfold bindArgs
  simp only [PySem.W.fnOf, List.map_nil, List.nil_append, h6', List.forIn_nil, pure_bind, bind_pure_comp, seqItems?, Option.getD_none, List.append_nil, hl]
  simp [zip_none hl, zip_all hl h7']
  rfl
def scB (N ps : List Str) (sc : Scope) : Bool := (match sc.kind with | .function => true | _ => false) && !sc.isCoroutine && !sc.isGenerator && decide N.Nodup && decide (N.take ps.length = ps) &&
  (ps.all fun x => locB sc x || (match sc.names.lookup x with | some .cell => true | _ => false)) && sc.names.all fun y => (match y.2 with | .free => false | _ => true)
theorem scB_ok {N ps : List Str} {sc : Scope} (h : scB N ps sc = true) : FnScope N ps sc := by
  obtain ⟨h, h7⟩ := and2 h
  obtain ⟨h, h6⟩ := and2 h
  obtain ⟨h, h5⟩ := and2 h
  obtain ⟨h, h4⟩ := and2 h
  obtain ⟨h1, h2, h3⟩ := and3 h
  refine ⟨?_, by simpa using h2, by simpa using h3, of_decide_eq_true h4, of_decide_eq_true h5, fun x hx => ?_, fun y hy e => ?_⟩
  · split at h1
    · assumption
    · cases h1
  · have q := List.all_eq_true.mp h6 x hx
    rcases Bool.or_eq_true_iff.mp q with z | z
    · unfold locB at z
      split at z
      · exact .inl (by assumption)
      · cases z
    · split at z
      · exact .inr (by assumption)
      · cases z
  · have q := List.all_eq_true.mp h7 y hy
    rw [e] at q
    cases q
/-- one def is what the evaluator's text says -/
def defB (G : Cfg) (fi : Fn) (d : He.DefD) : Bool := decide (d.at_ = (fi.name, none)) && d.dfl.isEmpty && d.kwd.isEmpty && decide (fi.np ≤ fi.N.length) && plainB (fi.N.take fi.np) d.params && scB fi.N (fi.N.take fi.np) d.scope && (erS G fi.N d.scope fi.body true).ss d.body
section
variable {P : Program} {w : World} {K : PySem.W.Frag} {mg : Str → Option Value} {base : Heap} {G : Cfg} {fa xa : Nat → Addr} {k f : Nat} {fi : Fn} {d : He.DefD} {fd : FuncData}
theorem np_len (hn : fi.np ≤ fi.N.length) : (fi.N.take fi.np).length = fi.np := by
  rw [List.length_take]
  omega
theorem body_ok (ck : defB G fi d = true) (hf : G.fns[f]? = some fi) (F : FunD K d.name d.qual d.params d.body d.scope (d.dvs K) (d.kws K) (fa f) fd) (facts : Facts K mg G fa xa) (calls : Calls P w K mg base G fa xa (fnEval G k) k) :
    FnOk P w K mg base (L2.CX P w) (k + 1) (fa f) fd (fi.N.take fi.np) (spFn K fa xa fi (fnEval G (k + 1)) f) := by
  obtain ⟨ck, c7⟩ := and2 ck
  obtain ⟨ck, c6⟩ := and2 ck
  obtain ⟨ck, c5⟩ := and2 ck
  obtain ⟨ck, c4⟩ := and2 ck
  have hn := of_decide_eq_true c4
  have S := scB_ok c6
  refine F.ok S (fun vs H Q E h => ?_) fun cdv A outer s H vs Q E hr h => ?_
  · obtain ⟨_, _, _, _, h, _⟩ := h
    rw [h, np_len hn]
  · have g : GoodS G fa xa (fnEval G k) k true (cxOf (L2.CX P w) P w K mg base fi.N d.qual d.scope (fa f) cdv A outer s H E) d.scope (fun cls dd _ H => E cls dd H) :=
      { scope := rfl
        nd := S.nd
        un := by have z := hr.un; exact Nat.lt_of_le_of_lt (by show _ + 65 ≤ _ + 16 * k + 200; exact Nat.add_le_add (Nat.le_add_right _ _) (by decide)) z
        calm := fun _ => rfl
        room := fun _ => hr
        tk := takes_of rfl rfl rfl rfl
        facts := facts
        calls := calls
        kind := S.kind
        fn := fun _ => rfl
        own := passes_of rfl
        stk := rfl
        frm := rfl }
    refine ⟨_, (sndS (io := fi.io) fi.body true _ d.scope _ g).ss _ c7, ?_⟩
    obtain ⟨F, sls, IO, ios, h1, h2, h3, h4, h5⟩ := h
    refine ⟨⟨F, H, IO, ios⟩, F, frame fi sls, h4, h3, ?_⟩
    unfold fnEval at h5
    simp only [hf, if_pos h2.symm] at h5
    have fr : sls ++ List.replicate (fi.N.length - sls.length) Sl.no = frame fi sls := rfl
    rw [fr] at h5
    cases z : (exR G (fnEval G k) fi.io fi.body).x (frame fi sls) with
    | nx e =>
      simp only [z] at h5
      exact fun F' σ' H' l r => h5 F' σ' H' .non l r (FV.sh (by simp only [DR]))
    | rt dd fr e =>
      simp only [z] at h5
      exact h5
    | er c e =>
      simp only [z] at h5
      exact h5
    | bk e =>
      simp only [z] at h5
    | ct e =>
      simp only [z] at h5
    | st =>
      simp only [z] at h5
theorem zero_ok (hn : fi.np ≤ fi.N.length) : FnOk P w K mg base (L2.CX P w) 0 (fa f) fd (fi.N.take fi.np) (spFn K fa xa fi (fnEval G 0) f) := by
  refine ⟨fun vs H Q E h => ?_, fun A outer s H args us vs Q E hr e0 hb r h => ?_⟩
  · obtain ⟨_, _, _, _, h, _⟩ := h
    rw [h, np_len hn]
  · obtain ⟨_, _, _, _, _, _, _, _, h⟩ := h
    exact h.elim
/-- every def -/
def allB (G : Cfg) (fn : List He.DefD) : Bool := decide (G.fns.length = fn.length) && (List.range G.fns.length).all fun i => match G.fns[i]?, fn[i]? with
  | some fi, some d => defB G fi d
  | _, _ => false
theorem levels {fn : List He.DefD} (ck : allB G fn = true) (hd : ∀ (f : Nat) (d : He.DefD), fn[f]? = some d → ∃ fd, FunD K d.name d.qual d.params d.body d.scope (d.dvs K) (d.kws K) (He.fAd K d.at_) fd) (hfa : ∀ (f : Nat) (fi : Fn), G.fns[f]? = some fi → fa f = He.ga K fi.name)
    (facts : Facts K mg G fa xa) : ∀ k, Calls P w K mg base G fa xa (fnEval G k) k := by
  obtain ⟨c1, c2⟩ := and2 ck
  have one : ∀ (f : Nat) (fi : Fn), G.fns[f]? = some fi → ∃ d fd, defB G fi d = true ∧ FunD K d.name d.qual d.params d.body d.scope (d.dvs K) (d.kws K) (fa f) fd := fun f fi hf => by
    have hlt : f < G.fns.length := (List.getElem?_eq_some_iff.mp hf).1
    have q := List.all_eq_true.mp c2 f (List.mem_range.mpr hlt)
    cases z : fn[f]? with
    | none =>
      rw [hf, z] at q
      cases q
    | some d =>
      simp only [hf, z] at q
      obtain ⟨fd, F⟩ := hd f d z
      have q0 := q
      obtain ⟨q, _⟩ := and2 q
      obtain ⟨q, _⟩ := and2 q
      obtain ⟨q, _⟩ := and2 q
      obtain ⟨q, _⟩ := and2 q
      obtain ⟨e1, _, _⟩ := and3 q
      have e1' : d.at_ = (fi.name, none) := of_decide_eq_true e1
      rw [e1'] at F
      have e2 : He.fAd K (fi.name, none) = fa f := (hfa f fi hf).symm
      rw [e2] at F
      exact ⟨d, fd, q0, F⟩
  have bnd : ∀ {d : He.DefD} {fi : Fn} {f : Nat} {fd : FuncData}, defB G fi d = true → FunD K d.name d.qual d.params d.body d.scope (d.dvs K) (d.kws K) (fa f) fd → PySem.W.keepIn K (.ref (fa f)) = true ∧ Binds K fd (fi.N.take fi.np) [] := fun {d fi f fd} ck F => by
    obtain ⟨ck, _⟩ := and2 ck
    obtain ⟨ck, _⟩ := and2 ck
    obtain ⟨ck, c5⟩ := and2 ck
    obtain ⟨ck, _⟩ := and2 ck
    obtain ⟨_, c2, c3⟩ := and3 ck
    refine ⟨F.kp, ?_⟩
    have e0 : d.dvs K = [] := by
      unfold He.DefD.dvs
      cases y : d.dfl with
      | nil => rfl
      | cons _ _ =>
        rw [y] at c2
        cases c2
    rw [e0] at F
    exact F.bindsN fun kV doc pm an cdv ct us hl => plain_bind c5 hl
  intro k
  induction k with
  | zero =>
    intro f fi hf
    obtain ⟨d, fd, ck, F⟩ := one f fi hf
    obtain ⟨b1, b2⟩ := bnd ck F
    exact ⟨fd, zero_ok (facts.fn f fi hf).2, b1, b2⟩
  | succ k ih =>
    intro f fi hf
    obtain ⟨d, fd, ck, F⟩ := one f fi hf
    obtain ⟨b1, b2⟩ := bnd ck F
    exact ⟨fd, body_ok ck hf F facts ih, b1, b2⟩
end
end EV
/-! From the head to the law. -/
namespace EV
open PySem L2
def gloIn (fa : List He.Fa) (x : Str) : Bool := fa.any fun f => match f with
  | .glo y => decide (y = x)
  | _ => false
def freeIn (fa : List He.Fa) (x : Str) : Bool := fa.any fun f => match f with
  | .free y => decide (y = x)
  | _ => false
def excIn (fa : List He.Fa) (x : Str) : Bool := fa.any fun f => match f with
  | .exc y => decide (y = x)
  | _ => false
def exmIn (fa : List He.Fa) (x y : Str) (b : Bool) : Bool := fa.any fun f => match f with
  | .exm u v c => decide (u = x) && decide (v = y) && (c == b)
  | _ => false
def datIn (fa : List He.Fa) (x : Str) (d : D) : Bool := fa.any fun f => match f, d with
  | .int y i, .int j => decide (y = x) && decide (i = j)
  | .str y z, .str s => decide (y = x) && decide (z.cps.toList = s)
  | _, _ => false
def factsB (G : Cfg) (fa : List He.Fa) : Bool := (G.fns.all fun fi => gloIn fa fi.name && decide (fi.np ≤ fi.N.length)) && blts.all (freeIn fa) && (G.exs.all fun x => gloIn fa x && excIn fa x) &&
  ((List.range G.exs.length).all fun c => (List.range G.exs.length).all fun h => match G.exs[c]?, G.exs[h]? with
    | some x, some y => exmIn fa x y (isHd G h c)
    | _, _ => false) && G.glos.all fun p => datIn fa p.1 p.2
section
variable {K : PySem.W.Frag} {h : Heap} {mg : Str → Option Value} {G : Cfg} {fa : List He.Fa}
def fOf (K : PySem.W.Frag) (G : Cfg) (f : Nat) : Addr := match G.fns[f]? with
  | some fi => He.ga K fi.name
  | none => 0
def xOf (K : PySem.W.Frag) (G : Cfg) (c : Nat) : Addr := match G.exs[c]? with
  | some x => He.ga K x
  | none => 0
theorem facts_of (X : K.In h) (N : h.Ns mainGlobals mg) (hk : ∀ f ∈ fa, f.ok K = true) (ck : factsB G fa = true) : Facts K mg G (fOf K G) (xOf K G) := by
  obtain ⟨ck, c5⟩ := and2 ck
  obtain ⟨ck, c4⟩ := and2 ck
  obtain ⟨c1, c2, c3⟩ := and3 ck
  have glo : ∀ {x : Str}, gloIn fa x = true → mg x = some (.ref (He.ga K x)) := fun {x} q => by
    obtain ⟨f, hf, q⟩ := List.any_eq_true.mp q
    cases f <;> try (cases q)
    rename_i y
    have e1 : y = x := of_decide_eq_true q
    subst e1
    exact He.glo_ok X N (hk _ hf)
  refine ⟨fun g x d hg => ?_, fun f fi hf => ?_, fun x hx => ?_, fun c x hc => ?_, fun c h x y hc hh => ?_⟩
  · obtain ⟨f, hf, q⟩ := List.any_eq_true.mp (List.all_eq_true.mp c5 _ (List.mem_of_getElem? hg))
    cases f <;> cases d <;> try (cases q)
    · rename_i y i j
      obtain ⟨q1, q2⟩ := and2 q
      have e1 : y = x := of_decide_eq_true q1
      have e2 : i = j := of_decide_eq_true q2
      subst e1 e2
      obtain ⟨t, ht⟩ := He.int_ok X N (hk _ hf)
      exact ⟨_, .int i, ht, ⟨t, rfl⟩, fun F => by simp only [DR]⟩
    · rename_i y z s
      obtain ⟨q1, q2⟩ := and2 q
      have e1 : y = x := of_decide_eq_true q1
      have e2 : z.cps.toList = s := of_decide_eq_true q2
      subst e1 e2
      obtain ⟨t, ht⟩ := He.str_ok X N (hk _ hf)
      exact ⟨_, .str z, ht, ⟨t, rfl⟩, fun F => by simp only [DR]⟩
  · obtain ⟨q1, q2⟩ := and2 (List.all_eq_true.mp c1 _ (List.mem_of_getElem? hf))
    refine ⟨?_, of_decide_eq_true q2⟩
    unfold fOf
    rw [hf]
    exact glo q1
  · obtain ⟨f, hf, q⟩ := List.any_eq_true.mp (List.all_eq_true.mp c2 x hx)
    cases f <;> try (cases q)
    rename_i y
    have e1 : y = x := of_decide_eq_true q
    subst e1
    exact He.free_ok X N (hk _ hf)
  · obtain ⟨q1, q2⟩ := and2 (List.all_eq_true.mp c3 _ (List.mem_of_getElem? hc))
    obtain ⟨f, hf, q⟩ := List.any_eq_true.mp q2
    cases f <;> try (cases q)
    rename_i y
    have e1 : y = x := of_decide_eq_true q
    subst e1
    unfold xOf
    rw [hc]
    exact ⟨glo q1, He.exc_ok (hk _ hf)⟩
  · have q := List.all_eq_true.mp (List.all_eq_true.mp c4 c (List.mem_range.mpr (List.getElem?_eq_some_iff.mp hc).1)) h (List.mem_range.mpr (List.getElem?_eq_some_iff.mp hh).1)
    simp only [hc, hh] at q
    obtain ⟨f, hf, q⟩ := List.any_eq_true.mp q
    cases f <;> try (cases q)
    rename_i u v b
    obtain ⟨q1, q2, q3⟩ := and3 q
    have e1 : u = x := of_decide_eq_true q1
    have e2 : v = y := of_decide_eq_true q2
    have e3 : b = isHd G h c := by simpa using q3
    subst e1 e2 e3
    unfold xOf
    rw [hc, hh]
    exact He.exm_ok (hk _ hf)
end
/-- the law's def, no exception leaves it -/
def spLaw (K : PySem.W.Frag) (G : Cfg) (fi : Fn) (k f : Nat) : Sp := fun vs H Q _ => spFn K (fOf K G) (xOf K G) fi (fnEval G k) f vs H Q fun _ _ _ => False
section
variable {P : Program} {w : World} {K : PySem.W.Frag} {h : Heap} {mg : Str → Option Value} {base : Heap} {G : Cfg} {fa : List He.Fa} {fn : List He.DefD} {f k : Nat} {fi : Fn}
theorem spLaw_start {ns : List Int} {a : Addr} {H : Hp} (hn : fi.np = 1) (hN : 1 ≤ fi.N.length) (hS : SqL K H a (ns.map V.int)) (he : ∃ fr e, fnEval G k f [.sh (.scr ns)] = .ok (.bl true) fr e) :
    spLaw K G fi k f [.ref a] H (fun v _ => v = .bl true) fun _ _ _ => False := by
  obtain ⟨fr, e, he⟩ := he
  have fg : ∀ {j : Nat} {s : Sl}, (frame fi [.sh (.scr ns)])[j]? = some s → (j = 0 ∧ s = .sh (.scr ns)) ∨ s = .no := fun {j s} h => by
    unfold frame at h
    cases j with
    | zero => exact .inl ⟨rfl, (Option.some.inj h).symm⟩
    | succ j =>
      simp only [List.cons_append, List.nil_append, List.getElem?_cons_succ] at h
      exact .inr (List.mem_replicate.mp (List.mem_of_getElem? h)).2
  have noow : ∀ {j : Nat} {d : D}, (frame fi [.sh (.scr ns)])[j]? ≠ some (.ow d) := fun {j d} q => by
    rcases fg q with ⟨_, z⟩ | z <;> cases z
  refine ⟨H, [.sh (.scr ns)], [], [], by rw [hn]; rfl, by rw [hn]; rfl, ⟨Le.refl H, Le.refl H, fun a o q1 q2 => ?_, fun _ _ q _ => q, fun _ z => (nomatch z), fun _ z => (nomatch z), ?_, fun j s w q1 q2 => ?_, fun j d a q1 _ => (noow q1).elim, fun j j' d d' a q1 _ _ _ => (noow q1).elim⟩, fun _ z => (nomatch z), ?_⟩
  · have q2' : H a = none := q2
    rw [q2'] at q1
    cases q1
  · unfold frame L2.start
    simp
  · rcases fg q1 with ⟨rfl, z⟩ | z
    · subst z
      have e1 : w = some (.ref a) := by
        have : (L2.start fi.N [V.ref a])[0]? = some (some (.ref a)) := rfl
        rw [this] at q2
        exact (Option.some.inj q2).symm
      subst e1
      exact ⟨_, rfl, by simp only [DR]; exact ⟨a, rfl, hS⟩⟩
    · subst z
      exact True.intro
  · rw [he]
    intro F' σ' H' v _ _ fv
    cases fr with
    | false =>
      have z := fv.dr
      simp only [DR] at z
      exact z
    | true =>
      obtain ⟨p, o, _, _, z, _⟩ := fv.new
      cases z
theorem law_ok {d : He.DefD} (X : K.In h) (N : h.Ns mainGlobals mg) (hk : ∀ f ∈ fa, f.ok K = true) (hd : ∀ (f : Nat) (d : He.DefD), fn[f]? = some d → ∃ fd, FunD K d.name d.qual d.params d.body d.scope (d.dvs K) (d.kws K) (He.fAd K d.at_) fd)
    (ck : allB G fn = true) (cf : factsB G fa = true) (hf : G.fns[f]? = some fi) (hfd : fn[f]? = some d) :
    ∃ fd, (∀ (s : Shared) (us : List Value), us.length = fi.np → BindsTo s fd ⟨us, []⟩ ((fi.N.take fi.np).zip us)) ∧ ∀ base, FnOk P w K mg base CX0 (k + 1) (fOf K G f) fd (fi.N.take fi.np) (spLaw K G fi (k + 1) f) := by
  have FX := facts_of (G := G) X N hk cf
  have hfa : ∀ (f : Nat) (fi : Fn), G.fns[f]? = some fi → fOf K G f = He.ga K fi.name := fun f fi hf => by unfold fOf; rw [hf]
  obtain ⟨fd, F⟩ := hd f d hfd
  have q := List.all_eq_true.mp (and2 ck).2 f (List.mem_range.mpr (List.getElem?_eq_some_iff.mp hf).1)
  simp only [hf, hfd] at q
  have q0 := q
  obtain ⟨q, _⟩ := and2 q
  obtain ⟨q, _⟩ := and2 q
  obtain ⟨q, c5⟩ := and2 q
  obtain ⟨q, c4⟩ := and2 q
  obtain ⟨e1, e2, e3⟩ := and3 q
  have e1' : d.at_ = (fi.name, none) := of_decide_eq_true e1
  rw [e1'] at F
  have e4 : He.fAd K (fi.name, none) = fOf K G f := (hfa f fi hf).symm
  rw [e4] at F
  refine ⟨fd, ?_, fun base => ?_⟩
  · have e0 : d.dvs K = [] := by
      unfold He.DefD.dvs
      cases y : d.dfl with
      | nil => rfl
      | cons _ _ =>
        rw [y] at e2
        cases e2
    rw [e0] at F
    intro s us hl
    exact F.bindsA (ps := fi.N.take fi.np) (fun kV doc pm an cdv ct us hl => plain_bind c5 hl) s us (by rw [np_len (of_decide_eq_true c4)]; exact hl)
  · have FO := body_ok (base := base) (w := w) (P := P) q0 hf F FX (levels (P := P) (w := w) (base := base) ck hd hfa FX k)
    refine ⟨fun vs H Q E h => FO.len vs H Q _ h, fun A outer s H args us vs Q E hr e0 hb r h => ?_⟩
    refine codeAny_mono (FO.run A outer s H args us vs Q _ hr e0 hb r h) fun r s' hq => ?_
    cases r with
    | error e =>
      obtain ⟨_, _, _, _, _, _, _, _, _, _, _, _, z⟩ := (show L2.CX P w outer H s (fun _ _ _ => False) e s' from hq)
      exact z.elim
    | ok fl => cases fl <;> exact hq
/-- all that the walk asks -/
theorem law_end {d : He.DefD} {fad : Addr} (X : K.In h) (N : h.Ns mainGlobals mg) (c : He.SaysD fa fn K) (ck : allB G fn = true) (cf : factsB G fa = true) (hf : G.fns[f]? = some fi) (hfd : fn[f]? = some d) (hp : fi.np = 1) (hx : fi.N.take 1 = (["script"] : List Str))
    (hmg : mg fi.name = some (.ref fad)) (main : ∀ ns : List Int, ns.length ≤ 63 → ∃ fr e, fnEval G (k + 1) f [.sh (.scr ns)] = .ok (.bl true) fr e) :
    ∃ (K : PySem.W.Frag) (fd : FuncData) (sp : Sp), K.In h ∧ (∀ (s : Shared) (u : Value), BindsTo s fd ⟨[u], []⟩ [("script", u)]) ∧
      (∀ (H : Hp) (a : Addr) (ns : List Int), ns.length ≤ 63 → Only H → SqL K H a (ns.map V.int) → sp [.ref a] H (fun v _ => v = .bl true) fun _ _ _ => False) ∧
      ∀ base : Heap, K.In base → base.Ns mainGlobals mg → FnOk P w K mg base CX0 (k + 1) fad fd ["script"] sp := by
  have hk : ∀ f ∈ fa, f.ok K = true := fun f hf => by
    obtain ⟨i, hi⟩ := List.getElem?_of_mem hf
    exact c.fact i hi
  have hd : ∀ (f : Nat) (d : He.DefD), fn[f]? = some d → ∃ fd, FunD K d.name d.qual d.params d.body d.scope (d.dvs K) (d.kws K) (He.fAd K d.at_) fd := fun f d h => c.def_ f h
  obtain ⟨fd, hb, hF⟩ := law_ok (P := P) (w := w) (k := k) X N hk hd ck cf hf hfd
  have ea : fOf K G f = fad := by
    have q := (facts_of (G := G) X N hk cf).fn f fi hf
    rw [hmg] at q
    have := Option.some.inj q.1
    cases this
    rfl
  rw [ea, hp, hx] at hF
  rw [hp, hx] at hb
  refine ⟨K, fd, _, X, fun s u => hb s [u] rfl, fun H a ns hl _ hS => ?_, fun base _ _ => hF base⟩
  refine spLaw_start hp ?_ hS (main ns hl)
  have := congrArg List.length hx
  rw [List.length_take] at this
  simp at this
  omega
end
end EV
/-! Working the evaluator by hand: calls without in-out parameters, loops, comprehensions. -/
namespace EV
open PySem L2
inductive Res where
  | ok (d : D) (fr : Bool) | er (c : Nat) | st
def FR.res : FR → Res
  | .ok d fr _ => .ok d fr
  | .er c _ => .er c
  | .st => .st
def Res.put (r : Res) (e ec : Ev) : R (D × Bool) := match r with
  | .ok d fr => .ok (d, fr) (if d.flat = true then e else ec)
  | .er c => .er c ec
  | .st => .st
theorem putIos_nil (e' : Ev) : ∀ (bs : List Bor) (ec : Ev) (j : Nat), putIos e' ec j [] bs = ec
  | [], ec, j => rfl
  | b :: bs, ec, j => by
    have := putIos_nil e' bs ec (j + 1)
    cases b <;> exact this
theorem go_pure {G : Cfg} {f : Nat} {fi : Fn} (call : Nat → List Sl → FR) (bs : List Bor) (e : Ev) (hf : G.fns[f]? = some fi) (hio : fi.io = []) (hn : fi.np = bs.length) :
    goCall G call f bs e = match mkArgs e [] bs with
      | none => .st
      | some z => (call f z.1).res.put e z.2 := by
  unfold goCall
  rw [hf]
  simp only [if_pos hn]
  unfold doCall
  rw [hio]
  cases mkArgs e [] bs with
  | none => rfl
  | some z =>
    obtain ⟨sls, ec⟩ := z
    simp only
    cases call f sls with
    | st => rfl
    | er c e' =>
      simp only [putIos_nil, FR.res, Res.put]
    | ok d fr e' =>
      simp only [putIos_nil, FR.res, Res.put]
      cases d.flat <;> rfl
def Out.fr (o : Out) : FR := match o with
  | .rt d fr e => .ok d fr e
  | .nx e => .ok .non false e
  | .er c e => .er c e
  | _ => .st
theorem fn_step {G : Cfg} {f : Nat} {fi : Fn} (k : Nat) (sls : List Sl) (hf : G.fns[f]? = some fi) (hn : fi.np = sls.length) :
    fnEval G (k + 1) f sls = ((exR G (fnEval G k) fi.io fi.body).x (sls ++ List.replicate (fi.N.length - sls.length) .no)).fr := by
  conv => lhs; unfold fnEval
  rw [hf]
  simp only [if_pos hn]
  rfl
def Out.res (o : Out) : Res := match o with
  | .rt d fr _ => .ok d fr
  | .nx _ => .ok .non false
  | .er c _ => .er c
  | _ => .st
theorem fn_res {G : Cfg} {f : Nat} {fi : Fn} (k : Nat) (sls : List Sl) (hf : G.fns[f]? = some fi) (hn : fi.np = sls.length) :
    (fnEval G (k + 1) f sls).res = ((exR G (fnEval G k) fi.io fi.body).x (sls ++ List.replicate (fi.N.length - sls.length) .no)).res := by
  rw [fn_step k sls hf hn]
  cases (exR G (fnEval G k) fi.io fi.body).x (sls ++ List.replicate (fi.N.length - sls.length) .no) <;> rfl
theorem fn_at {G : Cfg} {f : Nat} {np : Nat} {name : Str} {N : List Str} {io : List Bool} {body : SS} (k : Nat) (sls e0 : List Sl) (hf : G.fns[f]? = some ⟨name, np, N, io, body⟩) (hn : np = sls.length) (he : sls ++ List.replicate (N.length - sls.length) .no = e0) :
    (fnEval G (k + 1) f sls).res = ((exR G (fnEval G k) io body).x e0).res := by
  rw [fn_res k sls hf hn, he]
theorem seq_nx {G : Cfg} {call : Nat → List Sl → FR} {io : List Bool} {s r : SS} {e e1 : Ev} (h : (exR G call io s).x e = .nx e1) : (exR G call io (.seq s r)).x e = (exR G call io r).x e1 := by
  show (match (exR G call io s).x e with
    | .nx e1 => (exR G call io r).x e1
    | o => o) = _
  rw [h]
theorem for_nx {G : Cfg} {call : Nat → List Sl → FR} {io : List Bool} {tg : Tg} {it : SE} {b : SS} {e e1 e2 : Ev} {ds : List D} (hio : tgOk io tg = true) (h : (evR G call it).i e = .ok ds e1) (h2 : forL tg (exR G call io b).x ds e1 = .nx e2) : (exR G call io (.forS tg it b)).x e = .nx e2 := by
  show (if tgOk io tg = true then ((evR G call it).i e).out fun ds e1 => forL tg (exR G call io b).x ds e1 else .st) = _
  rw [if_pos hio, h]
  exact h2
section
variable {G : Cfg} {call : Nat → List Sl → FR} {io : List Bool} {a c : SE} {s r : SS} {i : Nat} {e e1 : Ev} {x : D × Bool}
theorem asg_nx (h : (evR G call a).f e = .ok x e1) (hi : ioAt io i = false) : (exR G call io (.asg i a)).x e = .nx (e1.set i (mkSl x.1 x.2)) := by
  show (if ioAt io i = true then .st else ((evR G call a).f e).out fun x e1 => .nx (e1.set i (mkSl x.1 x.2))) = _
  rw [hi, if_neg Bool.false_ne_true, h]
  rfl
theorem expr_nx (h : (evR G call a).f e = .ok x e1) : (exR G call io (.expr a)).x e = .nx e1 := by
  show (((evR G call a).f e).out fun _ e1 => Out.nx e1) = _
  rw [h]
  rfl
theorem expr_er {c : Nat} (h : (evR G call a).f e = .er c e1) : (exR G call io (.expr a)).x e = .er c e1 := by
  show (((evR G call a).f e).out fun _ e1 => Out.nx e1) = _
  rw [h]
  rfl
theorem aug_nx {op : Operator} {d z : D} (hi : ioAt io i = false) (h0 : e.getD i .no = .sh d) (h : (evR G call a).f e = .ok x e1) (hz : augD op d x.1 = some z) : (exR G call io (.aug i op a)).x e = .nx (e1.set i (.sh z)) := by
  show (if ioAt io i = true then .st else match e.getD i .no with
    | .sh d => ((evR G call a).f e).out fun x e1 => (R.of (augD op d x.1) e1).out fun z e2 => .nx (e2.set i (.sh z))
    | _ => .st) = _
  rw [hi, if_neg Bool.false_ne_true, h0]
  show (((evR G call a).f e).out fun x e1 => (R.of (augD op d x.1) e1).out fun z e2 => Out.nx (e2.set i (.sh z))) = _
  rw [h]
  show ((R.of (augD op d x.1) e1).out fun z e2 => Out.nx (e2.set i (.sh z))) = _
  rw [hz]
  rfl
theorem cond_tt (h : (evR G call c).t e = .ok true e1) : (exR G call io (.cond c s r)).x e = (exR G call io s).x e1 := by
  show (((evR G call c).t e).out fun k e1 => match k with
    | true => (exR G call io s).x e1
    | false => (exR G call io r).x e1) = _
  rw [h]
  rfl
theorem cond_ff (h : (evR G call c).t e = .ok false e1) : (exR G call io (.cond c s r)).x e = (exR G call io r).x e1 := by
  show (((evR G call c).t e).out fun k e1 => match k with
    | true => (exR G call io s).x e1
    | false => (exR G call io r).x e1) = _
  rw [h]
  rfl
theorem ret_sh {d : D} (hi : ioAt io i = false) (h : e.getD i .no = .sh d) : (exR G call io (.ret (.var i))).x e = .rt d false e := by
  show (if ioAt io i = true then ((evR G call (.var i)).f e).out fun x e1 => .rt x.1 x.2 e1 else match e.getD i .no with
      | .no => .st
      | .sh d => .rt d false e
      | .ow d => .rt d true (e.set i .no)) = _
  rw [hi, if_neg Bool.false_ne_true, h]
theorem ret_ow {d : D} (hi : ioAt io i = false) (h : e.getD i .no = .ow d) : (exR G call io (.ret (.var i))).x e = .rt d true (e.set i .no) := by
  show (if ioAt io i = true then ((evR G call (.var i)).f e).out fun x e1 => .rt x.1 x.2 e1 else match e.getD i .no with
      | .no => .st
      | .sh d => .rt d false e
      | .ow d => .rt d true (e.set i .no)) = _
  rw [hi, if_neg Bool.false_ne_true, h]
theorem ret_f (hv : ∀ i, a ≠ .var i) (h : (evR G call a).f e = .ok x e1) : (exR G call io (.ret a)).x e = .rt x.1 x.2 e1 := by
  have z : (exR G call io (.ret a)).x e = ((evR G call a).f e).out fun x e1 => .rt x.1 x.2 e1 := by
    cases a <;> first
      | rfl
      | exact absurd rfl (hv _)
  rw [z, h]
  rfl
theorem ret_er {c : Nat} (hv : ∀ i, a ≠ .var i) (h : (evR G call a).f e = .er c e1) : (exR G call io (.ret a)).x e = .er c e1 := by
  have z : (exR G call io (.ret a)).x e = ((evR G call a).f e).out fun x e1 => .rt x.1 x.2 e1 := by
    cases a <;> first
      | rfl
      | exact absurd rfl (hv _)
  rw [z, h]
  rfl
theorem seq_rt {d : D} {fr : Bool} (h : (exR G call io s).x e = .rt d fr e1) : (exR G call io (.seq s r)).x e = .rt d fr e1 := by
  show (match (exR G call io s).x e with
    | .nx e1 => (exR G call io r).x e1
    | o => o) = _
  rw [h]
theorem seq_er {c : Nat} (h : (exR G call io s).x e = .er c e1) : (exR G call io (.seq s r)).x e = .er c e1 := by
  show (match (exR G call io s).x e with
    | .nx e1 => (exR G call io r).x e1
    | o => o) = _
  rw [h]
theorem skip_nx : (exR G call io .skip).x e = .nx e := rfl
theorem raise_er {c : Nat} : (exR G call io (.raise c)).x e = .er c e := rfl
end
section
variable {G : Cfg} {call : Nat → List Sl → FR} {a xs : SE} {e e1 e2 : Ev} {x : D × Bool}
theorem bi_f {b : Bi} {bs : List Bor} {ds : List D} (h : (evR G call xs).bs e = .ok bs e1) (h2 : ress e1 bs = some ds) (h3 : biD b ds = some x) : (evR G call (.bi b xs)).f e = .ok x e1 := by
  show (((evR G call xs).bs e).bind fun bs e1 => match ress e1 bs with
    | some ds => R.of (biD b ds) e1
    | none => .st) = _
  rw [h]
  show (match ress e1 bs with
    | some ds => R.of (biD b ds) e1
    | none => .st) = _
  rw [h2]
  show R.of (biD b ds) e1 = _
  rw [h3]
  rfl
theorem nil_bs : (evR G call .nil).bs e = .ok [] e := rfl
theorem cons_bs {b : Bor} {bs : List Bor} (h : (evR G call a).b e = .ok b e1) (h2 : (evR G call xs).bs e1 = .ok bs e2) : (evR G call (.cons a xs)).bs e = .ok (b :: bs) e2 := by
  show (((evR G call a).b e).bind fun b e1 => ((evR G call xs).bs e1).bind fun bs e2 => .ok (b :: bs) e2) = _
  rw [h]
  show (((evR G call xs).bs e1).bind fun bs e2 => R.ok (b :: bs) e2) = _
  rw [h2]
  rfl
theorem comp_b {el it c : SE} {tg : Tg} {own : List (Str × Nat)} (h : (evR G call (.comp el tg it c own)).f e = .ok x e1) : (evR G call (.comp el tg it c own)).b e = .ok (.dat x.1) e1 := by
  show ((evR G call (.comp el tg it c own)).f e).bind _ = _
  rw [h]
  rfl
theorem call_b {f : Nat} (h : (evR G call (.call f xs)).f e = .ok x e1) : (evR G call (.call f xs)).b e = .ok (.dat x.1) e1 := by
  show ((evR G call (.call f xs)).f e).bind _ = _
  rw [h]
  rfl
theorem bi_b {b : Bi} (h : (evR G call (.bi b xs)).f e = .ok x e1) : (evR G call (.bi b xs)).b e = .ok (.dat x.1) e1 := by
  show ((evR G call (.bi b xs)).f e).bind _ = _
  rw [h]
  rfl
theorem call_f {f : Nat} {bs : List Bor} (h : (evR G call xs).bs e = .ok bs e1) : (evR G call (.call f xs)).f e = goCall G call f bs e1 := by
  show (((evR G call xs).bs e).bind fun bs e1 => goCall G call f bs e1) = _
  rw [h]
  rfl
theorem lst_f {bs : List Bor} {ds : List D} (h : (evR G call xs).bs e = .ok bs e1) (h2 : ress e1 bs = some ds) (h3 : ds.length ≤ sizeLine) : (evR G call (.lst xs)).f e = .ok (.lst ds, true) (frzs e1 bs) := by
  show (((evR G call xs).bs e).bind fun bs e1 => match ress e1 bs with
    | some ds => if lineOk ds.length then .ok (D.lst ds, true) (frzs e1 bs) else .st
    | none => .st) = _
  rw [h]
  show (match ress e1 bs with
    | some ds => if lineOk ds.length then R.ok (D.lst ds, true) (frzs e1 bs) else R.st
    | none => R.st) = _
  rw [h2]
  show (if lineOk ds.length = true then _ else _) = _
  rw [if_pos (show lineOk ds.length = true from decide_eq_true h3)]
theorem tup_f {bs : List Bor} {ds : List D} (h : (evR G call xs).bs e = .ok bs e1) (h2 : ress e1 bs = some ds) (h3 : ds.length ≤ sizeLine) : (evR G call (.tup xs)).f e = .ok (.tup ds, false) (frzs e1 bs) := by
  show (((evR G call xs).bs e).bind fun bs e1 => match ress e1 bs with
    | some ds => if lineOk ds.length then .ok (D.tup ds, false) (frzs e1 bs) else .st
    | none => .st) = _
  rw [h]
  show (match ress e1 bs with
    | some ds => if lineOk ds.length then R.ok (D.tup ds, false) (frzs e1 bs) else R.st
    | none => R.st) = _
  rw [h2]
  show (if lineOk ds.length = true then _ else _) = _
  rw [if_pos (show lineOk ds.length = true from decide_eq_true h3)]
end
theorem whil_nx {G : Cfg} {call : Nat → List Sl → FR} {io : List Bool} {c : SE} {b : SS} {e e2 : Ev} (h2 : whileL (evR G call c).t (exR G call io b).x G.fuel e = .nx e2) : (exR G call io (.whil c b)).x e = .nx e2 := h2
theorem comp_ok {G : Cfg} {call : Nat → List Sl → FR} {el it c : SE} {tg : Tg} {own : List (Str × Nat)} {e e1 e2 e3 : Ev} {ds ys : List D} (h : (evR G call it).i e = .ok ds e1) (h2 : compL (own.map (·.2)) tg (evR G call c).t (evR G call el).f ds [] e1 = .ok ys e2) (h3 : putBack e2 e1 (own.map (·.2)) = e3) :
    (evR G call (.comp el tg it c own)).f e = .ok (.lst ys, true) e3 := by
  show (((evR G call it).i e).bind fun ds e1 => (compL (own.map (·.2)) tg (evR G call c).t (evR G call el).f ds [] e1).bind fun ys e2 => .ok (D.lst ys, true) (putBack e2 e1 (own.map (·.2)))) = _
  rw [h]
  show ((compL (own.map (·.2)) tg (evR G call c).t (evR G call el).f ds [] e1).bind fun ys e2 => .ok (D.lst ys, true) (putBack e2 e1 (own.map (·.2)))) = _
  rw [h2, ← h3]
  rfl
theorem cMul_r {i j : Int} (h1 : j.natAbs ≤ 18446744073709551615) : cMul i j = true := Bool.or_eq_true_iff.mpr (.inr (Nat.ble_eq_true_of_le h1))
theorem cMul_l {i j : Int} (h1 : i.natAbs ≤ 18446744073709551615) : cMul i j = true := Bool.or_eq_true_iff.mpr (.inl (Nat.ble_eq_true_of_le h1))
theorem smallI_nat {n : Nat} (h : n < 1000000000) : smallI (n : Int) = true := Nat.ble_eq_true_of_le (by show (n : Int).natAbs ≤ _; omega)
theorem rng_len : ∀ (n : Nat) (i : Int), (rngL i n).length = n
  | 0, _ => rfl
  | n + 1, i => by rw [rngL, List.length_cons, rng_len n]
theorem rng_at : ∀ {n j : Nat} {i : Int}, j < n → (rngL i n)[j]? = some (.int (i + j))
  | 0, _, _, h => absurd h (Nat.not_lt_zero _)
  | n + 1, 0, i, _ => by simp [rngL]
  | n + 1, j + 1, i, h => by
    rw [rngL, List.getElem?_cons_succ, rng_at (n := n) (by omega)]
    congr 2
    omega
/-- a for that runs through -/
theorem for_thru {tg : Tg} {body : Ev → Out} (I : Nat → Ev → Prop) : ∀ (ds : List D) (i : Nat) (e : Ev), I i e → (∀ j d e, ds[j]? = some d → I (i + j) e → ∃ e1 e2, tgD tg d e = some e1 ∧ (body e1 = .nx e2 ∨ body e1 = .ct e2) ∧ I (i + j + 1) e2) →
    ∃ e', forL tg body ds e = .nx e' ∧ I (i + ds.length) e'
  | [], i, e, h, _ => ⟨e, rfl, h⟩
  | d :: ds, i, e, h, st => by
    obtain ⟨e1, e2, h1, h2, h3⟩ := st 0 d e rfl h
    obtain ⟨e', h4, h5⟩ := for_thru I ds (i + 1) e2 h3 fun j d e hj hI => by
      have := st (j + 1) d e (by simpa using hj) (by rw [show i + (j + 1) = i + 1 + j by omega]; exact hI)
      rw [show i + (j + 1) + 1 = i + 1 + j + 1 by omega] at this
      exact this
    refine ⟨e', ?_, by rw [List.length_cons, show i + (ds.length + 1) = i + 1 + ds.length by omega]; exact h5⟩
    unfold forL
    rw [h1]
    simp only
    rcases h2 with h2 | h2 <;> (rw [h2]; exact h4)
/-- a comprehension: what each item comes to (none: left out), the frame within J -/
theorem comp_thru {vs : List Nat} {tg : Tg} {test : Ev → R Bool} {elt : Ev → R (D × Bool)} (g : D → Option D) (J : Ev → Prop) : ∀ (ds acc : List D) (e : Ev), acc.length + ds.length ≤ sizeLine → J e →
    (∀ d ∈ ds, ∀ e, J e → ∃ e1, tgD tg d (wipeE e vs) = some e1 ∧ ((∃ e2, test e1 = .ok false e2 ∧ g d = none ∧ J e2) ∨ ∃ e2 y e3, test e1 = .ok true e2 ∧ elt e2 = .ok y e3 ∧ g d = some y.1 ∧ J e3)) →
    ∃ e', compL vs tg test elt ds acc e = .ok (acc ++ ds.filterMap g) (wipeE e' vs) ∧ J e'
  | [], acc, e, _, hJ, _ => ⟨e, by simp [compL], hJ⟩
  | d :: ds, acc, e, hl, hJ, st => by
    rw [List.length_cons] at hl
    obtain ⟨e1, h1, h2⟩ := st d List.mem_cons_self e hJ
    unfold compL
    rw [h1]
    simp only
    rcases h2 with ⟨e2, h2, h3, h4⟩ | ⟨e2, y, e3, h2, h3, h4, h5⟩
    · rw [h2]
      obtain ⟨e', k1, k2⟩ := comp_thru g J ds acc e2 (by omega) h4 fun d hd => st d (List.mem_cons_of_mem _ hd)
      exact ⟨e', by simp only [List.filterMap_cons, h3]; exact k1, k2⟩
    · rw [h2]
      simp only [h3]
      obtain ⟨e', k1, k2⟩ := comp_thru g J ds (acc ++ [y.1]) e3 (by rw [List.length_append]; simp; omega) h5 fun d hd => st d (List.mem_cons_of_mem _ hd)
      refine ⟨e', ?_, k2⟩
      rw [if_pos (by simp; omega), k1]
      simp [List.filterMap_cons, h4]
/-- a while: states S a -/
theorem while_thru {α : Type} {test : Ev → R Bool} {body : Ev → Out} (S : α → Ev → Prop) (c : α → Bool) (nx : α → α) (m : α → Nat) (P : α → Prop) (ht : ∀ a e, P a → S a e → test e = .ok (c a) e)
    (hb : ∀ a e, P a → c a = true → S a e → ∃ e', body e = .nx e' ∧ S (nx a) e' ∧ P (nx a) ∧ m (nx a) < m a) : ∀ (n : Nat) (a : α) (e : Ev), P a → S a e → m a < n → ∃ b e' i, whileL test body n e = .nx e' ∧ S b e' ∧ c b = false ∧ P b ∧ b = Nat.repeat nx i a
  | 0, a, e, _, _, h => absurd h (Nat.not_lt_zero _)
  | n + 1, a, e, hP, hS, h => by
    unfold whileL
    rw [ht a e hP hS]
    cases hc : c a with
    | false => exact ⟨a, e, 0, rfl, hS, hc, hP, rfl⟩
    | true =>
      obtain ⟨e', h1, h2, h3, h4⟩ := hb a e hP hc hS
      simp only [h1]
      obtain ⟨b, e2, i, k1, k2, k3, k4, k5⟩ := while_thru S c nx m P ht hb n (nx a) e' h3 h2 (by omega)
      refine ⟨b, e2, i + 1, k1, k2, k3, k4, ?_⟩
      rw [k5]
      have rp : ∀ (i : Nat) (a : α), Nat.repeat nx i (nx a) = Nat.repeat nx (i + 1) a := fun i => by
        induction i with
        | zero => intro a; rfl
        | succ i ih =>
          intro a
          show nx (Nat.repeat nx i (nx a)) = nx (Nat.repeat nx (i + 1) a)
          rw [ih]
      exact rp i a
theorem rngL_nat (n : Nat) : ∀ i : Nat, rngL (i : Int) n = (List.range' i n).map fun j : Nat => D.int (j : Int) := by
  induction n with
  | zero => intro i; rfl
  | succ n ih =>
    intro i
    have := ih (i + 1)
    simp only [rngL, List.range'_succ, List.map_cons]
    rw [← this]
    rfl
theorem ints_map : ∀ ns : List Int, ints? (ns.map D.int) = some ns
  | [] => rfl
  | n :: ns => by simp only [List.map_cons, ints?, ints_map ns, Option.map_some]
end EV
/-! The laws' own helpers, over any text that holds them. -/
namespace EV
open PySem
def fMixed : Fn := ⟨"_law_mixed", 2, ["number", "k", "step"], [], (.seq (.asg 2 (.bin .Mod (.bin .Add (.bin .Add (.bin .Mult (.var 0) (.lit (.int 48271))) (.bin .Mult (.var 1) (.lit (.int 69621)))) (.lit (.int 12345))) (.lit (.int 2147483647)))) (.seq (.ret (.bin .Mod (.bin .Add (.bin .Mult (.var 2) (.bin .Add (.bin .FloorDiv (.var 2) (.lit (.int 65536))) (.lit (.int 3)))) (.var 1)) (.lit (.int 2147483647)))) .skip))⟩
def fNumbers (m : Nat) : Fn := ⟨"_law_numbers", 1, ["script", "numbers", "cell", "rest", "k"], [], (.seq (.asg 1 (.lst .nil)) (.seq (.forS (.nm 2) (.var 0) (.seq (.cond (.cmp .GtE (.var 2) (.bin .Pow (.lit (.int 10)) (.lit (.int 18)))) (.seq (.asg 3 (.var 2)) (.seq (.forS (.nm 4) (.rng1 (.lit (.int 60))) (.seq (.cond (.cmp .Gt (.var 3) (.lit (.int 0))) (.seq (.expr (.mu .append 1 (.cons (.bin .Mod (.var 3) (.lit (.int 1000000))) .nil))) (.seq (.asg 3 (.bin .FloorDiv (.var 3) (.lit (.int 1000000)))) .skip)) .skip) .skip)) .skip)) (.seq (.expr (.mu .append 1 (.cons (.bin .Mod (.var 2) (.lit (.int 1000000))) .nil))) (.seq (.forS (.nm 4) (.rng1 (.lit (.int 5))) (.seq (.expr (.mu .append 1 (.cons (.bin .Mod (.call m (.cons (.call m (.cons (.bin .Mod (.var 2) (.lit (.int 2147483647))) (.cons (.var 4) .nil))) (.cons (.bin .Add (.var 4) (.lit (.int 7))) .nil))) (.lit (.int 1000000))) .nil))) .skip)) .skip))) .skip)) (.seq (.ret (.var 1)) .skip)))⟩
def fDraw (m : Nat) : Fn := ⟨"_law_draw", 1, ["draws", "at", "first"], [true], (.seq (.asg 1 (.ix (.var 0) (.lit (.int 1)))) (.seq (.asgI 0 (.lit (.int 1)) (.bin .Add (.var 1) (.lit (.int 1)))) (.seq (.cond (.cmp .Lt (.var 1) (.bi .len (.cons (.ix (.var 0) (.lit (.int 0))) .nil))) (.seq (.ret (.ix (.ix (.var 0) (.lit (.int 0))) (.var 1))) .skip) .skip) (.seq (.asg 2 (.bin .Add (.lit (.int 1)) (.var 1))) (.seq (.cond (.cmp .Gt (.bi .len (.cons (.ix (.var 0) (.lit (.int 0))) .nil)) (.lit (.int 0))) (.seq (.asg 2 (.bin .Add (.var 2) (.bin .Mult (.lit (.int 1009)) (.ix (.ix (.var 0) (.lit (.int 0))) (.lit (.int 0)))))) .skip) .skip) (.seq (.ret (.bin .Mod (.call m (.cons (.call m (.cons (.var 2) (.cons (.var 1) .nil))) (.cons (.lit (.int 5)) .nil))) (.lit (.int 1000000)))) .skip))))))⟩
def nD (n : Nat) : D := .int (n : Int)
def rowsD (rows : List Nat) : D := .lst (rows.map nD)
theorem and_nat (a b : Nat) : PySem.Builtin.bitAnd (a : Int) (b : Int) = ((a &&& b : Nat) : Int) := by
  unfold Builtin.bitAnd
  simp
theorem rng_map (n : Nat) (g : D → Option D) (h : Nat → D) (hg : ∀ j, j < n → g (.int ((j : Nat) : Int)) = some (h j)) : (rngL 0 n).filterMap g = (List.range n).map h := by
  have e := rngL_nat n 0
  rw [show ((0 : Nat) : Int) = 0 from rfl] at e
  rw [e, List.range_eq_range', List.filterMap_map, ← List.filterMap_eq_map]
  refine fm_congr fun j hj => ?_
  have : j < n := by simpa using hj
  exact hg j this
theorem rng_mem {n : Nat} {d : D} (h : d ∈ rngL 0 n) : ∃ j : Nat, j < n ∧ d = .int (j : Int) := by
  have e := rngL_nat n 0
  rw [show ((0 : Nat) : Int) = 0 from rfl] at e
  rw [e] at h
  obtain ⟨j, hj, rfl⟩ := List.mem_map.mp h
  exact ⟨j, by simpa using hj, rfl⟩
theorem at_nat {α : Type} {xs : List α} {j : Nat} (h : j < xs.length) : L2.atI xs (j : Int) = xs[j]? := by
  unfold L2.atI L2.ixN
  rw [if_pos (by omega), if_pos (by omega)]
  rfl
theorem at_row {rows : List Nat} {j : Nat} (h : j < rows.length) : L2.atI (rows.map nD) (j : Int) = some (.int (rows.getD j 0 : Nat)) := by
  rw [at_nat (by simpa using h), List.getElem?_map, List.getElem?_eq_getElem h]
  simp [nD, h]
theorem sum_ints (l : List Nat) : ints? (l.map nD) = some (l.map fun n : Nat => (n : Int)) := by
  have := ints_map (l.map fun n : Nat => (n : Int))
  rw [List.map_map] at this
  exact this
theorem sum_cast (l : List Nat) : (l.map fun n : Nat => (n : Int)).sum = ((l.sum : Nat) : Int) := by
  induction l with
  | nil => rfl
  | cons a l ih => simp [ih]
theorem at0 (a : D) (l : List D) : L2.atI (a :: l) 0 = some a := by unfold L2.atI L2.ixN; simp
theorem at1 (a b : D) (l : List D) : L2.atI (a :: b :: l) 1 = some b := by
  unfold L2.atI L2.ixN
  rw [if_pos (by decide), if_pos (by simp only [List.length_cons]; omega)]
  rfl
theorem xor_and (a b : Nat) : (a ^^^ b) + 2 * (a &&& b) = a + b := by
  induction a using Nat.strongRecOn generalizing b with
  | _ a ih =>
    by_cases ha : a = 0
    · subst ha
      simp
    · have h := ih (a / 2) (by omega) (b / 2)
      have x1 : (a ^^^ b) / 2 = a / 2 ^^^ b / 2 := Nat.xor_div_two
      have x2 : (a &&& b) / 2 = a / 2 &&& b / 2 := Nat.and_div_two
      have x3 : (a ^^^ b) % 2 = (a % 2 + b % 2) % 2 := by
        have := Nat.xor_mod_two_pow (a := a) (b := b) (n := 1)
        simp only [Nat.pow_one] at this
        rw [this]
        have h1 : a % 2 = 0 ∨ a % 2 = 1 := by omega
        have h2 : b % 2 = 0 ∨ b % 2 = 1 := by omega
        rcases h1 with h1 | h1 <;> rcases h2 with h2 | h2 <;> rw [h1, h2] <;> rfl
      have x4 : (a &&& b) % 2 = (a % 2) * (b % 2) := by
        have := Nat.and_mod_two_pow (a := a) (b := b) (n := 1)
        simp only [Nat.pow_one] at this
        rw [this]
        have h1 : a % 2 = 0 ∨ a % 2 = 1 := by omega
        have h2 : b % 2 = 0 ∨ b % 2 = 1 := by omega
        rcases h1 with h1 | h1 <;> rcases h2 with h2 | h2 <;> rw [h1, h2] <;> rfl
      rw [← x1, ← x2] at h
      have h1 : a % 2 = 0 ∨ a % 2 = 1 := by omega
      have h2 : b % 2 = 0 ∨ b % 2 = 1 := by omega
      rcases h1 with h1 | h1 <;> rcases h2 with h2 | h2 <;> rw [h1, h2] at x3 x4 <;> omega
theorem xor_nat (a b : Nat) : PySem.Builtin.bitXor (a : Int) (b : Int) = ((a ^^^ b : Nat) : Int) := by
  rw [PyProof.Rows.bitXor_and, and_nat]
  have := xor_and a b
  omega
theorem sum_d (l : List Nat) : biD .sum [.lst (l.map nD)] = some (nD l.sum, false) := by
  show (ints? (l.map nD)).map (fun ns => (D.int ns.sum, false)) = _
  rw [sum_ints, Option.map_some, sum_cast]
  rfl
/-- a comprehension whose items come to something with P -/
theorem comp_some {vs : List Nat} {tg : Tg} {test : Ev → R Bool} {elt : Ev → R (D × Bool)} (P : D → Prop) (J : Nat → Ev → Prop) : ∀ (ds acc : List D) (i : Nat) (e : Ev), acc.length + ds.length ≤ sizeLine → J i e →
    (∀ j d, ds[j]? = some d → ∀ e, J (i + j) e → ∃ e1 e2 y e3, tgD tg d (wipeE e vs) = some e1 ∧ test e1 = .ok true e2 ∧ elt e2 = .ok y e3 ∧ P y.1 ∧ J (i + j + 1) e3) →
    ∃ ys e', compL vs tg test elt ds acc e = .ok (acc ++ ys) (wipeE e' vs) ∧ ys.length = ds.length ∧ (∀ y ∈ ys, P y) ∧ J (i + ds.length) e'
  | [], acc, i, e, _, hJ, _ => ⟨[], e, by simp [compL], rfl, (fun y hy => nomatch hy), hJ⟩
  | d :: ds, acc, i, e, hl, hJ, st => by
    rw [List.length_cons] at hl
    obtain ⟨e1, e2, y, e3, h1, h2, h3, h4, h5⟩ := st 0 d rfl e hJ
    unfold compL
    rw [h1]
    simp only
    rw [h2]
    simp only [h3]
    obtain ⟨ys, e', k1, k2, k3, k4⟩ := comp_some P J ds (acc ++ [y.1]) (i + 1) e3 (by rw [List.length_append]; simp; omega) h5 fun j d hd e hj => by
      have := st (j + 1) d (by simpa using hd) e (by rw [show i + (j + 1) = i + 1 + j by omega]; exact hj)
      rw [show i + (j + 1) + 1 = i + 1 + j + 1 by omega] at this
      exact this
    refine ⟨y.1 :: ys, e', ?_, by simp [k2], fun z hz => ?_, by rw [List.length_cons, show i + (ds.length + 1) = i + 1 + ds.length by omega]; exact k4⟩
    · rw [if_pos (by simp; omega), k1]
      simp
    · rcases List.mem_cons.mp hz with rfl | hz
      · exact h4
      · exact k3 z hz
section
variable {G : Cfg} {m : Nat}
theorem mixed_ok (hm : G.fns[m]? = some fMixed) (k : Nat) (a b : Int) (h : 1 ≤ k) : ∃ v : Nat, v < 2147483647 ∧ (fnEval G k m [.sh (.int a), .sh (.int b)]).res = .ok (nD v) false := by
  obtain ⟨k, rfl⟩ : ∃ j, k = j + 1 := ⟨k - 1, by omega⟩
  rw [fn_at k [.sh (.int a), .sh (.int b)] [.sh (.int a), .sh (.int b), .no] hm rfl rfl]
  generalize hs : (a * 48271 + b * 69621 + 12345) % 2147483647 = s
  have s1 : 0 ≤ s := by omega
  have s2 : s < 2147483647 := by omega
  refine ⟨((s * (s / 65536 + 3) + b) % 2147483647).toNat, by omega, ?_⟩
  have e1 : cMul a 48271 = true := cMul_r (by decide)
  have e2 : cMul b 69621 = true := cMul_r (by decide)
  have e3 : cMul s (s / 65536 + 3) = true := cMul_l (by omega)
  have e4 : (((s * (s / 65536 + 3) + b) % 2147483647).toNat : Int) = (s * (s / 65536 + 3) + b) % 2147483647 := Int.toNat_of_nonneg (by omega)
  unfold nD
  rw [e4]
  rw [seq_nx (asg_nx (x := (.int s, false)) (e1 := [.sh (.int a), .sh (.int b), .no]) (by simp [e1, e2, hs, exR, evR, ofX, ofF, noR, R.out, R.bind, R.of, with1, with2, withs, Bor.res, Bor.frz, ress, frzs, bl2, dat, Sl.get?, Sl.frz, mkSl, D.mutb, D.flat, D.isNon, truD, binD, unD, augD, cmpD, eqD, scalD, ixD, isiD, Out.res, Res.put, mkArgs, lineOk, sizeLine_eq, ioAt]) rfl)]
  rw [seq_rt (ret_f (x := (.int ((s * (s / 65536 + 3) + b) % 2147483647), false)) (e1 := [.sh (.int a), .sh (.int b), .sh (.int s)]) (by intro i h; cases h) (by simp [e3, exR, evR, ofX, ofF, noR, R.out, R.bind, R.of, with1, with2, withs, Bor.res, Bor.frz, ress, frzs, bl2, dat, Sl.get?, Sl.frz, mkSl, D.mutb, D.flat, D.isNon, truD, binD, unD, augD, cmpD, eqD, scalD, ixD, isiD, Out.res, Res.put, mkArgs, lineOk, sizeLine_eq, ioAt]))]
  rfl
/-- a list of drawn numbers -/
def small (l : List Nat) : Prop := ∀ r ∈ l, r < 1000000
theorem small_app {l : List Nat} {r : Nat} (h : small l) (hr : r < 1000000) : small (l ++ [r]) := fun x hx => by
  rcases List.mem_append.mp hx with z | z
  · exact h x z
  · have : x = r := by simpa using z
    rw [this]
    exact hr
theorem app_ok {k : Nat} {a : SE} {c : D} {s2 s3 s4 : Sl} {l : List Nat} {r : Nat} (hl : l.length < 1000000) (h : (evR G (fnEval G k) a).b [.sh c, .ow (rowsD l), s2, s3, s4] = .ok (.dat (nD r)) [.sh c, .ow (rowsD l), s2, s3, s4]) :
    (exR G (fnEval G k) [] (.expr (.mu .append 1 (.cons a .nil)))).x [.sh c, .ow (rowsD l), s2, s3, s4] = .nx [.sh c, .ow (rowsD (l ++ [r])), s2, s3, s4] := by
  have h2 := cons_bs h (nil_bs (G := G) (call := fnEval G k))
  have hlen : (l.map nD).length < sizeLine := by rw [List.length_map, sizeLine_eq]; omega
  refine expr_nx (x := (.non, false)) ?_
  show (if muOk .append [.sh c, .ow (rowsD l), s2, s3, s4] 1 = true then ((evR G (fnEval G k) (.cons a .nil)).bs [.sh c, .ow (rowsD l), s2, s3, s4]).bind _ else .st) = _
  rw [if_pos (show muOk .append [.sh c, .ow (rowsD l), s2, s3, s4] 1 = true from rfl), h2]
  show (match (if decide ((l.map nD).length < sizeLine) = true then some (D.lst (l.map nD ++ [nD r]), D.non) else none) with
    | some (d', r') => R.ok (r', false) [.sh c, .ow d', s2, s3, s4]
    | none => R.st) = _
  rw [if_pos (decide_eq_true hlen)]
  show R.ok (D.non, false) [.sh c, .ow (.lst (l.map nD ++ [nD r])), s2, s3, s4] = _
  rw [show l.map nD ++ [nD r] = (l ++ [r]).map nD by simp]
  rfl
theorem pow18 : binD .Pow (.int 10) (.int 18) = some (.int (10 ^ 18), false) := rfl
theorem goM (hm : G.fns[m]? = some fMixed) (call : Nat → List Sl → FR) (b0 b1 : Bor) (e : Ev) : goCall G call m [b0, b1] e = (match mkArgs e [] [b0, b1] with | none => .st | some z => (call m z.1).res.put e z.2) := go_pure call [b0, b1] e hm rfl rfl
theorem numbers_ok {f : Nat} (hm : G.fns[m]? = some fMixed) (hf : G.fns[f]? = some (fNumbers m)) (k : Nat) (ns : List Int) (hn : ns.length ≤ 63) (h : 2 ≤ k) : ∃ l : List Nat, small l ∧ l.length ≤ 4000 ∧ (fnEval G k f [.sh (.scr ns)]).res = .ok (rowsD l) true := by
  obtain ⟨k, rfl⟩ : ∃ j, k = j + 1 := ⟨k - 1, by omega⟩
  rw [fn_at k [.sh (.scr ns)] [.sh (.scr ns), .no, .no, .no, .no] hf rfl rfl]
  obtain ⟨e', k1, k2⟩ := for_thru (tg := .nm 2) (body := (exR G (fnEval G k) [] (.seq (.cond (.cmp .GtE (.var 2) (.bin .Pow (.lit (.int 10)) (.lit (.int 18)))) (.seq (.asg 3 (.var 2)) (.seq (.forS (.nm 4) (.rng1 (.lit (.int 60))) (.seq (.cond (.cmp .Gt (.var 3) (.lit (.int 0))) (.seq (.expr (.mu .append 1 (.cons (.bin .Mod (.var 3) (.lit (.int 1000000))) .nil))) (.seq (.asg 3 (.bin .FloorDiv (.var 3) (.lit (.int 1000000)))) .skip)) .skip) .skip)) .skip)) (.seq (.expr (.mu .append 1 (.cons (.bin .Mod (.var 2) (.lit (.int 1000000))) .nil))) (.seq (.forS (.nm 4) (.rng1 (.lit (.int 5))) (.seq (.expr (.mu .append 1 (.cons (.bin .Mod (.call m (.cons (.call m (.cons (.bin .Mod (.var 2) (.lit (.int 2147483647))) (.cons (.var 4) .nil))) (.cons (.bin .Add (.var 4) (.lit (.int 7))) .nil))) (.lit (.int 1000000))) .nil))) .skip)) .skip))) .skip)).x)
    (fun i e => ∃ (l : List Nat) (s2 s3 s4 : Sl), small l ∧ l.length ≤ 60 * i ∧ e = [.sh (.scr ns), .ow (rowsD l), s2, s3, s4]) (ns.map .int) 0 [.sh (.scr ns), .ow (rowsD []), .no, .no, .no] ⟨[], .no, .no, .no, (fun r hr => nomatch hr), by simp, rfl⟩ fun j d e hj ⟨l, s2, s3, s4, hs, hll, hx⟩ => by
      subst hx
      rw [Nat.zero_add] at hll ⊢
      have hjl : j < ns.length := by
        have := (List.getElem?_eq_some_iff.mp hj).1
        simpa using this
      obtain ⟨c, rfl⟩ : ∃ c, d = .int c := by
        rw [List.getElem?_map] at hj
        obtain ⟨c, _, hc⟩ := Option.map_eq_some_iff.mp hj
        exact ⟨c, hc.symm⟩
      refine ⟨[.sh (.scr ns), .ow (rowsD l), .sh (.int c), s3, s4], ?_⟩
      by_cases hbig : (10 : Int) ^ 18 ≤ c
      · -- a great number
        obtain ⟨e2, q1, l2, rest, y4, q2, q3, q4⟩ := for_thru (tg := .nm 4) (body := (exR G (fnEval G k) [] (.seq (.cond (.cmp .Gt (.var 3) (.lit (.int 0))) (.seq (.expr (.mu .append 1 (.cons (.bin .Mod (.var 3) (.lit (.int 1000000))) .nil))) (.seq (.asg 3 (.bin .FloorDiv (.var 3) (.lit (.int 1000000)))) .skip)) .skip) .skip)).x)
          (fun i e => ∃ (l2 : List Nat) (rest : Int) (y4 : Sl), small l2 ∧ l2.length ≤ l.length + i ∧ e = [.sh (.scr ns), .ow (rowsD l2), .sh (.int c), .sh (.int rest), y4]) (rngL 0 60) 0 [.sh (.scr ns), .ow (rowsD l), .sh (.int c), .sh (.int c), s4] ⟨l, c, s4, hs, by simp, rfl⟩ fun i d e hz ⟨l2, rest, y4, g1, g2, g3⟩ => by
            subst g3
            rw [Nat.zero_add] at g2 ⊢
            have hi : i < 60 := by
              have := (List.getElem?_eq_some_iff.mp hz).1
              rwa [rng_len] at this
            by_cases hr : 0 < rest
            · refine ⟨[.sh (.scr ns), .ow (rowsD l2), .sh (.int c), .sh (.int rest), .sh d], [.sh (.scr ns), .ow (rowsD (l2 ++ [(rest % 1000000).toNat])), .sh (.int c), .sh (.int (rest / 1000000)), .sh d], rfl, .inl ?_, l2 ++ [(rest % 1000000).toNat], _, _, small_app g1 (by omega), by simp; omega, rfl⟩
              rw [seq_nx ((cond_tt (e1 := [.sh (.scr ns), .ow (rowsD l2), .sh (.int c), .sh (.int rest), .sh d]) (by simp [hr, exR, evR, ofX, ofF, noR, R.out, R.bind, R.of, with1, with2, withs, Bor.res, Bor.frz, ress, frzs, bl2, dat, Sl.get?, Sl.frz, mkSl, D.mutb, D.flat, D.isNon, truD, binD, unD, augD, cmpD, eqD, scalD, ixD, isiD, Out.res, Res.put, mkArgs, lineOk, sizeLine_eq, ioAt])).trans ((seq_nx (app_ok (r := (rest % 1000000).toNat) (by omega) (by
                have : ((rest % 1000000).toNat : Int) = rest % 1000000 := Int.toNat_of_nonneg (by omega)
                simp [nD, this, exR, evR, ofX, ofF, noR, R.out, R.bind, R.of, with1, with2, withs, Bor.res, Bor.frz, ress, frzs, bl2, dat, Sl.get?, Sl.frz, mkSl, D.mutb, D.flat, D.isNon, truD, binD, unD, augD, cmpD, eqD, scalD, ixD, isiD, Out.res, Res.put, mkArgs, lineOk, sizeLine_eq, ioAt]))).trans ((seq_nx (asg_nx (x := (.int (rest / 1000000), false)) (e1 := [.sh (.scr ns), .ow (rowsD (l2 ++ [(rest % 1000000).toNat])), .sh (.int c), .sh (.int rest), .sh d]) (by simp [exR, evR, ofX, ofF, noR, R.out, R.bind, R.of, with1, with2, withs, Bor.res, Bor.frz, ress, frzs, bl2, dat, Sl.get?, Sl.frz, mkSl, D.mutb, D.flat, D.isNon, truD, binD, unD, augD, cmpD, eqD, scalD, ixD, isiD, Out.res, Res.put, mkArgs, lineOk, sizeLine_eq, ioAt]) rfl)).trans skip_nx)))]
              rfl
            · refine ⟨[.sh (.scr ns), .ow (rowsD l2), .sh (.int c), .sh (.int rest), .sh d], [.sh (.scr ns), .ow (rowsD l2), .sh (.int c), .sh (.int rest), .sh d], rfl, .inl ?_, l2, rest, _, g1, by omega, rfl⟩
              rw [seq_nx ((cond_ff (e1 := [.sh (.scr ns), .ow (rowsD l2), .sh (.int c), .sh (.int rest), .sh d]) (by simp [hr, exR, evR, ofX, ofF, noR, R.out, R.bind, R.of, with1, with2, withs, Bor.res, Bor.frz, ress, frzs, bl2, dat, Sl.get?, Sl.frz, mkSl, D.mutb, D.flat, D.isNon, truD, binD, unD, augD, cmpD, eqD, scalD, ixD, isiD, Out.res, Res.put, mkArgs, lineOk, sizeLine_eq, ioAt])).trans skip_nx)]
              rfl
        subst q4
        rw [rng_len] at q3
        refine ⟨[.sh (.scr ns), .ow (rowsD l2), .sh (.int c), .sh (.int rest), y4], rfl, .inl ?_, l2, _, _, _, q2, by omega, rfl⟩
        rw [seq_nx ((cond_tt (e1 := [.sh (.scr ns), .ow (rowsD l), .sh (.int c), s3, s4]) (by simp [pow18, exR, evR, ofX, ofF, noR, R.out, R.bind, R.of, with1, with2, withs, Bor.res, Bor.frz, ress, frzs, bl2, dat, Sl.get?, Sl.frz, mkSl, D.mutb, D.flat, D.isNon, truD, unD, augD, cmpD, eqD, scalD, ixD, isiD, Out.res, Res.put, mkArgs, lineOk, sizeLine_eq, ioAt]; omega)).trans ((seq_nx (asg_nx (x := (.int c, false)) (e1 := [.sh (.scr ns), .ow (rowsD l), .sh (.int c), s3, s4]) rfl rfl)).trans ((seq_nx (for_nx (ds := rngL 0 60) (e1 := [.sh (.scr ns), .ow (rowsD l), .sh (.int c), .sh (.int c), s4]) rfl (by simp [show smallI 60 = true from rfl, exR, evR, ofX, ofF, noR, R.out, R.bind, R.of, with1, with2, withs, Bor.res, Bor.frz, ress, frzs, bl2, dat, Sl.get?, Sl.frz, mkSl, D.mutb, D.flat, D.isNon, truD, binD, unD, augD, cmpD, eqD, scalD, ixD, isiD, Out.res, Res.put, mkArgs, lineOk, sizeLine_eq, ioAt]) q1)).trans skip_nx)))]
        rfl
      · obtain ⟨e2, q1, l2, y4, q2, q3, q4⟩ := for_thru (tg := .nm 4) (body := (exR G (fnEval G k) [] (.seq (.expr (.mu .append 1 (.cons (.bin .Mod (.call m (.cons (.call m (.cons (.bin .Mod (.var 2) (.lit (.int 2147483647))) (.cons (.var 4) .nil))) (.cons (.bin .Add (.var 4) (.lit (.int 7))) .nil))) (.lit (.int 1000000))) .nil))) .skip)).x)
          (fun i e => ∃ (l2 : List Nat) (y4 : Sl), small l2 ∧ l2.length ≤ l.length + 1 + i ∧ e = [.sh (.scr ns), .ow (rowsD l2), .sh (.int c), s3, y4]) (rngL 0 5) 0 [.sh (.scr ns), .ow (rowsD (l ++ [(c % 1000000).toNat])), .sh (.int c), s3, s4] ⟨_, s4, small_app hs (by omega), by simp, rfl⟩ fun i d e hz ⟨l2, y4, g1, g2, g3⟩ => by
            subst g3
            rw [Nat.zero_add] at g2 ⊢
            have hi : i < 5 := by
              have := (List.getElem?_eq_some_iff.mp hz).1
              rwa [rng_len] at this
            rw [rng_at hi] at hz
            have hdd : d = .int (i : Int) := by simpa using hz.symm
            subst hdd
            obtain ⟨v1, _, w1⟩ := mixed_ok hm k (c % 2147483647) i (by omega)
            obtain ⟨v2, _, w2⟩ := mixed_ok hm k v1 (i + 7) (by omega)
            refine ⟨[.sh (.scr ns), .ow (rowsD l2), .sh (.int c), s3, .sh (.int i)], [.sh (.scr ns), .ow (rowsD (l2 ++ [v2 % 1000000])), .sh (.int c), s3, .sh (.int i)], rfl, .inl ?_, l2 ++ [v2 % 1000000], _, small_app g1 (by omega), by simp; omega, rfl⟩
            rw [seq_nx (app_ok (r := v2 % 1000000) (by omega) (by
              simp [nD, goM hm, w1, w2, exR, evR, ofX, ofF, noR, R.out, R.bind, R.of, with1, with2, withs, Bor.res, Bor.frz, ress, frzs, bl2, dat, Sl.get?, Sl.frz, mkSl, D.mutb, D.flat, D.isNon, truD, binD, unD, augD, cmpD, eqD, scalD, ixD, isiD, Out.res, Res.put, mkArgs, lineOk, sizeLine_eq, ioAt]))]
            rfl
        subst q4
        rw [rng_len] at q3
        refine ⟨[.sh (.scr ns), .ow (rowsD l2), .sh (.int c), s3, y4], rfl, .inl ?_, l2, _, _, _, q2, by omega, rfl⟩
        rw [seq_nx ((cond_ff (e1 := [.sh (.scr ns), .ow (rowsD l), .sh (.int c), s3, s4]) (by simp [pow18, exR, evR, ofX, ofF, noR, R.out, R.bind, R.of, with1, with2, withs, Bor.res, Bor.frz, ress, frzs, bl2, dat, Sl.get?, Sl.frz, mkSl, D.mutb, D.flat, D.isNon, truD, unD, augD, cmpD, eqD, scalD, ixD, isiD, Out.res, Res.put, mkArgs, lineOk, sizeLine_eq, ioAt]; omega)).trans ((seq_nx (app_ok (r := (c % 1000000).toNat) (by omega) (by
          have : ((c % 1000000).toNat : Int) = c % 1000000 := Int.toNat_of_nonneg (by omega)
          simp [nD, this, exR, evR, ofX, ofF, noR, R.out, R.bind, R.of, with1, with2, withs, Bor.res, Bor.frz, ress, frzs, bl2, dat, Sl.get?, Sl.frz, mkSl, D.mutb, D.flat, D.isNon, truD, binD, unD, augD, cmpD, eqD, scalD, ixD, isiD, Out.res, Res.put, mkArgs, lineOk, sizeLine_eq, ioAt]))).trans ((seq_nx (for_nx (ds := rngL 0 5) (e1 := [.sh (.scr ns), .ow (rowsD (l ++ [(c % 1000000).toNat])), .sh (.int c), s3, s4]) rfl (by simp [show smallI 5 = true from rfl, exR, evR, ofX, ofF, noR, R.out, R.bind, R.of, with1, with2, withs, Bor.res, Bor.frz, ress, frzs, bl2, dat, Sl.get?, Sl.frz, mkSl, D.mutb, D.flat, D.isNon, truD, binD, unD, augD, cmpD, eqD, scalD, ixD, isiD, Out.res, Res.put, mkArgs, lineOk, sizeLine_eq, ioAt]) q1)).trans skip_nx)))]
        rfl
  obtain ⟨l, s2, s3, s4, q1, q2, q3⟩ := k2
  subst q3
  refine ⟨l, q1, by simp at q2; omega, ?_⟩
  rw [seq_nx (asg_nx (x := (rowsD [], true)) (e1 := [.sh (.scr ns), .no, .no, .no, .no]) rfl rfl), seq_nx (for_nx (ds := ns.map .int) (e1 := [.sh (.scr ns), .ow (rowsD []), .no, .no, .no]) rfl rfl k1), seq_rt (ret_ow (d := rowsD l) rfl rfl)]
  rfl
def drD (l : List Nat) (at_ : Nat) : D := .lst [rowsD l, nD at_]
theorem draw_ok {f : Nat} (hm : G.fns[m]? = some fMixed) (hf : G.fns[f]? = some (fDraw m)) (k : Nat) (l : List Nat) (at_ : Nat) (hs : small l) (hl : l.length ≤ 4000) (ha : at_ < 1000000) (h : 2 ≤ k) : ∃ (v : Nat) (e : Ev), v < 1000000 ∧ fnEval G k f [.ow (drD l at_)] = .ok (nD v) false e ∧ e.getD 0 .no = .ow (drD l (at_ + 1)) := by
  obtain ⟨k, rfl⟩ : ∃ j, k = j + 1 := ⟨k - 1, by omega⟩
  rw [fn_step (fi := fDraw m) k _ hf rfl]
  show ∃ (v : Nat) (e : Ev), v < 1000000 ∧ ((exR G (fnEval G k) [true] (fDraw m).body).x [.ow (drD l at_), .no, .no]).fr = .ok (nD v) false e ∧ e.getD 0 .no = .ow (drD l (at_ + 1))
  have a0 := at0 (rowsD l) [nD at_]
  have a1 := at1 (rowsD l) (nD at_) []
  have a0' := at0 (rowsD l) [nD (at_ + 1)]
  -- the first two statements
  have s1 : (exR G (fnEval G k) [true] (.asg 1 (.ix (.var 0) (.lit (.int 1))))).x [.ow (drD l at_), .no, .no] = .nx [.ow (drD l at_), .sh (nD at_), .no] := by
    rw [asg_nx (x := (nD at_, false)) (e1 := [.ow (drD l at_), .no, .no]) (by simp [drD, at1, exR, evR, ofX, ofF, noR, R.out, R.bind, R.of, with1, with2, withs, Bor.res, Bor.frz, ress, frzs, bl2, dat, Sl.get?, Sl.frz, mkSl, D.mutb, D.flat, D.isNon, truD, binD, unD, augD, cmpD, eqD, scalD, ixD, isiD, Out.res, Res.put, mkArgs, lineOk, sizeLine_eq, ioAt]) rfl]
    rfl
  have s2 : (exR G (fnEval G k) [true] (.asgI 0 (.lit (.int 1)) (.bin .Add (.var 1) (.lit (.int 1))))).x [.ow (drD l at_), .sh (nD at_), .no] = .nx [.ow (drD l (at_ + 1)), .sh (nD at_), .no] := by
    simp [drD, nD, setD, L2.ixN, exR, evR, ofX, ofF, noR, R.out, R.bind, R.of, with1, with2, withs, Bor.res, Bor.frz, ress, frzs, bl2, dat, Sl.get?, Sl.frz, mkSl, D.mutb, D.flat, D.isNon, truD, binD, unD, augD, cmpD, eqD, scalD, ixD, isiD, Out.res, Res.put, mkArgs, lineOk, sizeLine_eq, ioAt]
  by_cases hb : at_ < l.length
  · have a2 := at_row hb
    have s3 : (exR G (fnEval G k) [true] (.cond (.cmp .Lt (.var 1) (.bi .len (.cons (.ix (.var 0) (.lit (.int 0))) .nil))) (.seq (.ret (.ix (.ix (.var 0) (.lit (.int 0))) (.var 1))) .skip) .skip)).x [.ow (drD l (at_ + 1)), .sh (nD at_), .no] = .rt (nD (l.getD at_ 0)) false [.ow (drD l (at_ + 1)), .sh (nD at_), .no] := by
      have hb' : (at_ : Int) < (l.length : Int) := by omega
      rw [cond_tt (e1 := [.ow (drD l (at_ + 1)), .sh (nD at_), .no]) (by simp [drD, at0, rowsD, nD, biD, hb, exR, evR, ofX, ofF, noR, R.out, R.bind, R.of, with1, with2, withs, Bor.res, Bor.frz, ress, frzs, bl2, dat, Sl.get?, Sl.frz, mkSl, D.mutb, D.flat, D.isNon, truD, binD, unD, augD, cmpD, eqD, scalD, ixD, isiD, Out.res, Res.put, mkArgs, lineOk, sizeLine_eq, ioAt])]
      rw [seq_rt (ret_f (x := (nD (l.getD at_ 0), false)) (e1 := [.ow (drD l (at_ + 1)), .sh (nD at_), .no]) (by intro i h; cases h) (by simp at a2; simp [drD, at0, rowsD, nD, a2, exR, evR, ofX, ofF, noR, R.out, R.bind, R.of, with1, with2, withs, Bor.res, Bor.frz, ress, frzs, bl2, dat, Sl.get?, Sl.frz, mkSl, D.mutb, D.flat, D.isNon, truD, binD, unD, augD, cmpD, eqD, scalD, ixD, isiD, Out.res, Res.put, mkArgs, lineOk, sizeLine_eq, ioAt]))]
    refine ⟨l.getD at_ 0, [.ow (drD l (at_ + 1)), .sh (nD at_), .no], ?_, ?_, rfl⟩
    · rw [List.getD_eq_getElem?_getD, List.getElem?_eq_getElem hb]
      exact hs _ (List.getElem_mem hb)
    · unfold fDraw
      rw [seq_nx s1, seq_nx s2, seq_rt s3]
      rfl
  · have s3 : (exR G (fnEval G k) [true] (.cond (.cmp .Lt (.var 1) (.bi .len (.cons (.ix (.var 0) (.lit (.int 0))) .nil))) (.seq (.ret (.ix (.ix (.var 0) (.lit (.int 0))) (.var 1))) .skip) .skip)).x [.ow (drD l (at_ + 1)), .sh (nD at_), .no] = .nx [.ow (drD l (at_ + 1)), .sh (nD at_), .no] := by
      rw [cond_ff (e1 := [.ow (drD l (at_ + 1)), .sh (nD at_), .no]) (by simp [drD, at0, rowsD, nD, biD, hb, exR, evR, ofX, ofF, noR, R.out, R.bind, R.of, with1, with2, withs, Bor.res, Bor.frz, ress, frzs, bl2, dat, Sl.get?, Sl.frz, mkSl, D.mutb, D.flat, D.isNon, truD, binD, unD, augD, cmpD, eqD, scalD, ixD, isiD, Out.res, Res.put, mkArgs, lineOk, sizeLine_eq, ioAt])]
      rfl
    have s4 : (exR G (fnEval G k) [true] (.asg 2 (.bin .Add (.lit (.int 1)) (.var 1)))).x [.ow (drD l (at_ + 1)), .sh (nD at_), .no] = .nx [.ow (drD l (at_ + 1)), .sh (nD at_), .sh (nD (1 + at_))] := by
      rw [asg_nx (x := (nD (1 + at_), false)) (e1 := [.ow (drD l (at_ + 1)), .sh (nD at_), .no]) (by simp [nD, exR, evR, ofX, ofF, noR, R.out, R.bind, R.of, with1, with2, withs, Bor.res, Bor.frz, ress, frzs, bl2, dat, Sl.get?, Sl.frz, mkSl, D.mutb, D.flat, D.isNon, truD, binD, unD, augD, cmpD, eqD, scalD, ixD, isiD, Out.res, Res.put, mkArgs, lineOk, sizeLine_eq, ioAt]) rfl]
      rfl
    have s5 : ∃ f : Int, (exR G (fnEval G k) [true] (.cond (.cmp .Gt (.bi .len (.cons (.ix (.var 0) (.lit (.int 0))) .nil)) (.lit (.int 0))) (.seq (.asg 2 (.bin .Add (.var 2) (.bin .Mult (.lit (.int 1009)) (.ix (.ix (.var 0) (.lit (.int 0))) (.lit (.int 0)))))) .skip) .skip)).x [.ow (drD l (at_ + 1)), .sh (nD at_), .sh (nD (1 + at_))] = .nx [.ow (drD l (at_ + 1)), .sh (nD at_), .sh (.int f)] := by
      by_cases hz : 0 < l.length
      · have a2 := at_row hz
        have hm : cMul 1009 ((l.getD 0 0 : Nat) : Int) = true := cMul_l (by decide)
        refine ⟨(1 + at_ : Nat) + 1009 * (l.getD 0 0 : Nat), ?_⟩
        rw [cond_tt (e1 := [.ow (drD l (at_ + 1)), .sh (nD at_), .sh (nD (1 + at_))]) (by simp [drD, at0, rowsD, nD, biD, hz, exR, evR, ofX, ofF, noR, R.out, R.bind, R.of, with1, with2, withs, Bor.res, Bor.frz, ress, frzs, bl2, dat, Sl.get?, Sl.frz, mkSl, D.mutb, D.flat, D.isNon, truD, binD, unD, augD, cmpD, eqD, scalD, ixD, isiD, Out.res, Res.put, mkArgs, lineOk, sizeLine_eq, ioAt])]
        rw [seq_nx (asg_nx (x := (.int ((1 + at_ : Nat) + 1009 * (l.getD 0 0 : Nat)), false)) (e1 := [.ow (drD l (at_ + 1)), .sh (nD at_), .sh (nD (1 + at_))]) (by simp at a2 hm; simp [drD, at0, rowsD, nD, a2, hm, exR, evR, ofX, ofF, noR, R.out, R.bind, R.of, with1, with2, withs, Bor.res, Bor.frz, ress, frzs, bl2, dat, Sl.get?, Sl.frz, mkSl, D.mutb, D.flat, D.isNon, truD, binD, unD, augD, cmpD, eqD, scalD, ixD, isiD, Out.res, Res.put, mkArgs, lineOk, sizeLine_eq, ioAt]) rfl)]
        rfl
      · refine ⟨(1 + at_ : Nat), ?_⟩
        rw [cond_ff (e1 := [.ow (drD l (at_ + 1)), .sh (nD at_), .sh (nD (1 + at_))]) (by simp [drD, at0, rowsD, nD, biD, hz, exR, evR, ofX, ofF, noR, R.out, R.bind, R.of, with1, with2, withs, Bor.res, Bor.frz, ress, frzs, bl2, dat, Sl.get?, Sl.frz, mkSl, D.mutb, D.flat, D.isNon, truD, binD, unD, augD, cmpD, eqD, scalD, ixD, isiD, Out.res, Res.put, mkArgs, lineOk, sizeLine_eq, ioAt])]
        rfl
    obtain ⟨f, s5⟩ := s5
    obtain ⟨v1, _, w1⟩ := mixed_ok hm k f at_ (by omega)
    obtain ⟨v2, _, w2⟩ := mixed_ok hm k v1 5 (by omega)
    refine ⟨v2 % 1000000, [.ow (drD l (at_ + 1)), .sh (nD at_), .sh (.int f)], by omega, ?_, rfl⟩
    unfold fDraw
    rw [seq_nx s1, seq_nx s2, seq_nx s3, seq_nx s4, seq_nx s5, seq_rt (ret_f (x := (nD (v2 % 1000000), false)) (e1 := [.ow (drD l (at_ + 1)), .sh (nD at_), .sh (.int f)]) (by intro i h; cases h) (by simp [nD] at w1 w2; simp [nD, goM hm, w1, w2, exR, evR, ofX, ofF, noR, R.out, R.bind, R.of, with1, with2, withs, Bor.res, Bor.frz, ress, frzs, bl2, dat, Sl.get?, Sl.frz, mkSl, D.mutb, D.flat, D.isNon, truD, binD, unD, augD, cmpD, eqD, scalD, ixD, isiD, Out.res, Res.put, mkArgs, lineOk, sizeLine_eq, ioAt]))]
    rfl
theorem draw_call {f : Nat} (hm : G.fns[m]? = some fMixed) (hf : G.fns[f]? = some (fDraw m)) (k : Nat) (i : Nat) (l : List Nat) (at_ : Nat) (hs : small l) (hl : l.length ≤ 4000) (ha : at_ < 1000000) (h : 2 ≤ k) (e : Ev) (hi : e.getD i .no = .ow (drD l at_)) :
    ∃ v : Nat, v < 1000000 ∧ (evR G (fnEval G k) (.call f (.cons (.var i) .nil))).f e = .ok (nD v, false) (e.set i (.ow (drD l (at_ + 1)))) := by
  obtain ⟨v, e2, hv, h1, h2⟩ := draw_ok hm hf k l at_ hs hl ha h
  refine ⟨v, hv, ?_⟩
  have hb : (evR G (fnEval G k) (.cons (.var i) .nil)).bs e = .ok [.slot i] e := cons_bs (by
    show (match e.getD i .no with
      | .no => R.st
      | .sh d => R.ok (Bor.dat d) e
      | .ow _ => R.ok (Bor.slot i) e) = _
    rw [hi]) nil_bs
  rw [call_f hb]
  show (match G.fns[f]? with
    | some fi => if fi.np = [Bor.slot i].length then doCall (fnEval G k) fi.io f [.slot i] e else .st
    | none => .st) = _
  rw [hf]
  show doCall (fnEval G k) [true] f [.slot i] e = _
  have hm : mkArgs e [true] [.slot i] = some ([.ow (drD l at_)], e.set i .no) := by
    simp only [mkArgs, hi, Option.map_some]
  unfold doCall
  rw [hm]
  simp only [h1]
  show (if (nD v).flat && !([true].any id) then _ else _) = _
  rw [if_neg (by simp)]
  show R.ok (nD v, false) ((e.set i .no).set i (e2.getD 0 .no)) = _
  rw [h2, List.set_set]
def bTwo : SS := (.seq (.asg 1 (.lit (.int 1))) (.seq (.forS (.nm 2) (.rng1 (.var 0)) (.seq (.asg 1 (.bin .Mult (.var 1) (.lit (.int 2)))) .skip)) (.seq (.ret (.var 1)) .skip)))
theorem two_ok {f : Nat} {nm : Str} {N : List Str} (hf : G.fns[f]? = some ⟨nm, 1, N, [], bTwo⟩) (hN : N.length = 3) (k : Nat) (n : Nat) (hn : n ≤ 60) (h : 1 ≤ k) : (fnEval G k f [.sh (.int n)]).res = .ok (.int (2 ^ n : Nat)) false := by
  obtain ⟨k, rfl⟩ : ∃ j, k = j + 1 := ⟨k - 1, by omega⟩
  rw [fn_at k [.sh (.int n)] [.sh (.int n), .no, .no] hf rfl (by rw [hN]; rfl)]
  obtain ⟨e', k1, x, k2⟩ := for_thru (tg := .nm 2) (body := (exR G (fnEval G k) [] (.seq (.asg 1 (.bin .Mult (.var 1) (.lit (.int 2)))) .skip)).x) (fun i e => ∃ x, e = [.sh (.int n), .sh (.int (2 ^ i : Nat)), x])
    (rngL 0 n) 0 [.sh (.int n), .sh (.int 1), .no] ⟨.no, rfl⟩ fun j d e hj ⟨x, hx⟩ => by
      subst hx
      refine ⟨[.sh (.int n), .sh (.int (2 ^ (0 + j) : Nat)), .sh d], [.sh (.int n), .sh (.int (2 ^ (0 + j + 1) : Nat)), .sh d], rfl, .inl ?_, .sh d, rfl⟩
      simp [cMul_r, Int.pow_succ, exR, evR, ofX, ofF, noR, R.out, R.bind, R.of, with1, with2, withs, Bor.res, Bor.frz, ress, frzs, bl2, dat, Sl.get?, Sl.frz, mkSl, D.mutb, D.flat, D.isNon, truD, binD, unD, augD, cmpD, eqD, scalD, ixD, isiD, Out.res, Res.put, mkArgs, lineOk, sizeLine_eq, ioAt]
  unfold bTwo
  rw [seq_nx (e1 := [.sh (.int n), .sh (.int 1), .no]) (by simp [exR, evR, ofX, ofF, noR, R.out, R.bind, R.of, with1, with2, withs, Bor.res, Bor.frz, ress, frzs, bl2, dat, Sl.get?, Sl.frz, mkSl, D.mutb, D.flat, D.isNon, truD, binD, unD, augD, cmpD, eqD, scalD, ixD, isiD, Out.res, Res.put, mkArgs, lineOk, sizeLine_eq, ioAt]), seq_nx (for_nx (ds := rngL 0 n) (e1 := [.sh (.int n), .sh (.int 1), .no]) rfl (by simp [smallI_nat (n := n) (by omega), exR, evR, ofX, ofF, noR, R.out, R.bind, R.of, with1, with2, withs, Bor.res, Bor.frz, ress, frzs, bl2, dat, Sl.get?, Sl.frz, mkSl, D.mutb, D.flat, D.isNon, truD, binD, unD, augD, cmpD, eqD, scalD, ixD, isiD, Out.res, Res.put, mkArgs, lineOk, sizeLine_eq, ioAt]) k1)]
  subst k2
  rw [rng_len]
  simp [exR, evR, ofX, ofF, noR, R.out, R.bind, R.of, with1, with2, withs, Bor.res, Bor.frz, ress, frzs, bl2, dat, Sl.get?, Sl.frz, mkSl, D.mutb, D.flat, D.isNon, truD, binD, unD, augD, cmpD, eqD, scalD, ixD, isiD, Out.res, Res.put, mkArgs, lineOk, sizeLine_eq, ioAt]
def bBit (t : Nat) : SS := (.seq (.ret (.bin .Mod (.bin .FloorDiv (.var 0) (.call t (.cons (.var 1) .nil))) (.lit (.int 2)))) .skip)
theorem goT {t : Nat} {nm2 : Str} {N2 : List Str} (ht : G.fns[t]? = some ⟨nm2, 1, N2, [], bTwo⟩) (call : Nat → List Sl → FR) (b0 : Bor) (e : Ev) : goCall G call t [b0] e = (match mkArgs e [] [b0] with | none => .st | some z => (call t z.1).res.put e z.2) := go_pure call [b0] e ht rfl rfl
theorem lbit_ok {f t : Nat} {nm nm2 : Str} {N N2 : List Str} (hf : G.fns[f]? = some ⟨nm, 2, N, [], bBit t⟩) (hN : N.length = 2) (ht : G.fns[t]? = some ⟨nm2, 1, N2, [], bTwo⟩) (hN2 : N2.length = 3) (k : Nat) (p j : Nat) (hj : j ≤ 20) (h : 2 ≤ k) : (fnEval G k f [.sh (nD p), .sh (nD j)]).res = .ok (nD (p / 2 ^ j % 2)) false := by
  obtain ⟨k, rfl⟩ : ∃ j, k = j + 1 := ⟨k - 1, by omega⟩
  rw [fn_at k [.sh (nD p), .sh (nD j)] [.sh (nD p), .sh (nD j)] hf rfl (by rw [hN]; rfl)]
  have t2 := two_ok ht hN2 k j (by omega) (by omega)
  have h1 : (0 : Int) < ((2 ^ j : Nat) : Int) := by
    have := Nat.pow_pos (n := j) (show 0 < 2 by decide)
    omega
  have h2 : (((2 ^ j : Nat) : Int)).natAbs ≤ 1073741823 := by
    have := Nat.pow_le_pow_right (n := 2) (by decide) hj
    rw [Int.natAbs_natCast]
    omega
  have h3 : Nat.ble (((2 ^ j : Nat) : Int)).natAbs 1073741823 = true := Nat.ble_eq_true_of_le h2
  have hb : binD .FloorDiv (.int p) (.int ((2 ^ j : Nat) : Int)) = some (.int ((p / 2 ^ j : Nat) : Int), false) := by
    show (if (decide (0 < ((2 ^ j : Nat) : Int)) && Nat.ble (((2 ^ j : Nat) : Int)).natAbs 1073741823) = true then some (D.int ((p : Int) / ((2 ^ j : Nat) : Int)), false) else none) = _
    rw [h3, decide_eq_true h1]
    simp
  have e : ((2 ^ j : Nat) : Int) = 2 ^ j := by simp
  rw [e] at hb t2
  have hb2 : binD .Mod (.int ((p / 2 ^ j : Nat) : Int)) (.int 2) = some (nD (p / 2 ^ j % 2), false) := by
    simp [binD, nD]
  simp [bBit, goT ht, t2, hb, nD, exR, evR, ofX, ofF, noR, R.out, R.bind, R.of, with1, with2, withs, Bor.res, Bor.frz, ress, frzs, bl2, dat, Sl.get?, Sl.frz, mkSl, D.mutb, D.flat, D.isNon, truD, unD, augD, cmpD, eqD, scalD, ixD, isiD, Out.res, Res.put, mkArgs, lineOk, sizeLine_eq, ioAt]
  simp [nD] at hb2
  rw [hb2]
end
end EV
/-! More helpers. -/
namespace EV
open PySem
section
variable {G : Cfg}
def bIsNum : SS := (.seq (.ret (.and (.isi (.var 0) .int) (.and (.not (.isi (.var 0) .bool)) (.cmp2 .LtE .LtE (.var 1) (.var 0) (.var 2))))) .skip)
def bCheckNum (q c : Nat) : SS := (.seq (.cond (.not (.call q (.cons (.var 0) (.cons (.var 1) (.cons (.var 2) .nil))))) (.seq (.raise c) .skip) .skip) .skip)
def bTwoTo : SS := (.seq (.ret (.bin .LShift (.lit (.int 1)) (.var 0))) .skip)
def bBitF : SS := (.seq (.ret (.bin .BitAnd (.bin .RShift (.var 0) (.var 1)) (.lit (.int 1)))) .skip)
def okV : D → Bool
  | .fn _ => false
  | .scr _ => false
  | _ => true
def isNum (v : D) (lo hi : Int) : Bool := match v with
  | .int i => decide (lo ≤ i) && decide (i ≤ hi)
  | _ => false
theorem isnum_ok {f : Nat} {nm : Str} {N : List Str} (hf : G.fns[f]? = some ⟨nm, 3, N, [], bIsNum⟩) (hN : N.length = 3) (k : Nat) (v : D) (lo hi : Int) (hv : okV v = true) (h : 1 ≤ k) : (fnEval G k f [.sh v, .sh (.int lo), .sh (.int hi)]).res = .ok (.bl (isNum v lo hi)) false := by
  obtain ⟨k, rfl⟩ : ∃ j, k = j + 1 := ⟨k - 1, by omega⟩
  rw [fn_at k [.sh v, .sh (.int lo), .sh (.int hi)] [.sh v, .sh (.int lo), .sh (.int hi)] hf rfl (by rw [hN]; rfl)]
  cases v <;> first
    | (cases hv; done)
    | (simp [bIsNum, isNum, exR, evR, ofX, ofF, noR, R.out, R.bind, R.of, with1, with2, withs, Bor.res, Bor.frz, ress, frzs, bl2, dat, Sl.get?, Sl.frz, mkSl, D.mutb, D.flat, D.isNon, truD, binD, unD, augD, cmpD, eqD, scalD, ixD, isiD, Out.res, Res.put, mkArgs, lineOk, sizeLine_eq, ioAt]; done)
    | (rename_i i; by_cases h1 : lo ≤ i <;> simp [bIsNum, isNum, h1, exR, evR, ofX, ofF, noR, R.out, R.bind, R.of, with1, with2, withs, Bor.res, Bor.frz, ress, frzs, bl2, dat, Sl.get?, Sl.frz, mkSl, D.mutb, D.flat, D.isNon, truD, binD, unD, augD, cmpD, eqD, scalD, ixD, isiD, Out.res, Res.put, mkArgs, lineOk, sizeLine_eq, ioAt])
theorem goP {f np : Nat} {nm : Str} {N : List Str} {body : SS} (hf : G.fns[f]? = some ⟨nm, np, N, [], body⟩) (call : Nat → List Sl → FR) (bs : List Bor) (e : Ev) (hl : np = bs.length) : goCall G call f bs e = (match mkArgs e [] bs with | none => .st | some z => (call f z.1).res.put e z.2) := go_pure call bs e hf rfl hl
theorem checknum_ok {f q c : Nat} {nm nm2 : Str} {N N2 : List Str} (hf : G.fns[f]? = some ⟨nm, 3, N, [], bCheckNum q c⟩) (hN : N.length = 3) (hq : G.fns[q]? = some ⟨nm2, 3, N2, [], bIsNum⟩) (hN2 : N2.length = 3) (k : Nat) (v : D) (lo hi : Int) (hv : okV v = true) (h : 2 ≤ k) : (fnEval G k f [.sh v, .sh (.int lo), .sh (.int hi)]).res = if isNum v lo hi = true then .ok .non false else .er c := by
  obtain ⟨k, rfl⟩ : ∃ j, k = j + 1 := ⟨k - 1, by omega⟩
  rw [fn_at k [.sh v, .sh (.int lo), .sh (.int hi)] [.sh v, .sh (.int lo), .sh (.int hi)] hf rfl (by rw [hN]; rfl)]
  have i := isnum_ok hq hN2 k v lo hi hv (by omega)
  have g := fun e b0 b1 b2 => goP hq (fnEval G k) [b0, b1, b2] e rfl
  cases hb : isNum v lo hi <;> simp [hb] at i <;> simp [bCheckNum, g, i, hb, exR, evR, ofX, ofF, noR, R.out, R.bind, R.of, with1, with2, withs, Bor.res, Bor.frz, ress, frzs, bl2, dat, Sl.get?, Sl.frz, mkSl, D.mutb, D.flat, D.isNon, truD, binD, unD, augD, cmpD, eqD, scalD, ixD, isiD, Out.res, Res.put, mkArgs, lineOk, sizeLine_eq, ioAt]
theorem twoto_ok {f : Nat} {nm : Str} {N : List Str} (hf : G.fns[f]? = some ⟨nm, 1, N, [], bTwoTo⟩) (hN : N.length = 1) (k : Nat) (n : Nat) (hn : n ≤ 1000000) (h : 1 ≤ k) : (fnEval G k f [.sh (.int n)]).res = .ok (.int ((2 ^ n : Nat) : Int)) false := by
  obtain ⟨k, rfl⟩ : ∃ j, k = j + 1 := ⟨k - 1, by omega⟩
  rw [fn_at k [.sh (.int n)] [.sh (.int n)] hf rfl (by rw [hN]; rfl)]
  have h1 : (n : Int) ≤ 1000000 := by omega
  simp [bTwoTo, cPow, hn, exR, evR, ofX, ofF, noR, R.out, R.bind, R.of, with1, with2, withs, Bor.res, Bor.frz, ress, frzs, bl2, dat, Sl.get?, Sl.frz, mkSl, D.mutb, D.flat, D.isNon, truD, binD, unD, augD, cmpD, eqD, scalD, ixD, isiD, Out.res, Res.put, mkArgs, lineOk, sizeLine_eq, ioAt]
theorem bitf_ok {f : Nat} {nm : Str} {N : List Str} (hf : G.fns[f]? = some ⟨nm, 2, N, [], bBitF⟩) (hN : N.length = 2) (k : Nat) (p j : Nat) (h : 1 ≤ k) : (fnEval G k f [.sh (.int p), .sh (.int j)]).res = .ok (.int ((p / 2 ^ j % 2 : Nat) : Int)) false := by
  obtain ⟨k, rfl⟩ : ∃ j, k = j + 1 := ⟨k - 1, by omega⟩
  rw [fn_at k [.sh (.int p), .sh (.int j)] [.sh (.int p), .sh (.int j)] hf rfl (by rw [hN]; rfl)]
  simp [bBitF, PyProof.Rows.bitAnd_m1, exR, evR, ofX, ofF, noR, R.out, R.bind, R.of, with1, with2, withs, Bor.res, Bor.frz, ress, frzs, bl2, dat, Sl.get?, Sl.frz, mkSl, D.mutb, D.flat, D.isNon, truD, binD, unD, augD, cmpD, eqD, scalD, ixD, isiD, Out.res, Res.put, mkArgs, lineOk, sizeLine_eq, ioAt]
end
end EV
/-! Equal by the law's own word. -/
namespace EV
open PySem
section
variable {G : Cfg}
def bEq1 (a : Nat) : SS := (.seq (.cond (.isi (.var 1) .list) (.seq (.cond (.or (.not (.isi (.var 0) .list)) (.cmp .NotEq (.bi .len (.cons (.var 0) .nil)) (.bi .len (.cons (.var 1) .nil)))) (.seq (.ret (.lit (.bl false))) .skip) .skip) (.seq (.ret (.call a (.cons (.var 0) (.cons (.var 1) .nil)))) .skip)) .skip) (.seq (.cond (.isi (.var 1) .tuple) (.seq (.cond (.or (.not (.isi (.var 0) .tuple)) (.cmp .NotEq (.bi .len (.cons (.var 0) .nil)) (.bi .len (.cons (.var 1) .nil)))) (.seq (.ret (.lit (.bl false))) .skip) .skip) (.seq (.ret (.call a (.cons (.var 0) (.cons (.var 1) .nil)))) .skip)) .skip) (.seq (.cond (.isi (.var 1) .bool) (.seq (.ret (.and (.isi (.var 0) .bool) (.cmp .Eq (.var 0) (.var 1)))) .skip) .skip) (.seq (.cond (.isi (.var 1) .int) (.seq (.ret (.and (.isi (.var 0) .int) (.and (.not (.isi (.var 0) .bool)) (.cmp .Eq (.var 0) (.var 1))))) .skip) .skip) (.seq (.cond (.isi (.var 1) .str) (.seq (.ret (.and (.isi (.var 0) .str) (.cmp .Eq (.var 0) (.var 1)))) .skip) .skip) (.seq (.ret (.cmp .Is (.var 0) (.lit .non))) .skip))))))
def bEq2 (a : Nat) : SS := (.seq (.cond (.isi (.var 1) .list) (.seq (.ret (.and (.isi (.var 0) .list) (.and (.cmp .Eq (.bi .len (.cons (.var 0) .nil)) (.bi .len (.cons (.var 1) .nil))) (.call a (.cons (.var 0) (.cons (.var 1) .nil)))))) .skip) .skip) (.seq (.cond (.isi (.var 1) .tuple) (.seq (.ret (.and (.isi (.var 0) .tuple) (.and (.cmp .Eq (.bi .len (.cons (.var 0) .nil)) (.bi .len (.cons (.var 1) .nil))) (.call a (.cons (.var 0) (.cons (.var 1) .nil)))))) .skip) .skip) (.seq (.cond (.isi (.var 1) .bool) (.seq (.ret (.and (.isi (.var 0) .bool) (.cmp .Eq (.var 0) (.var 1)))) .skip) .skip) (.seq (.cond (.isi (.var 1) .int) (.seq (.ret (.and (.isi (.var 0) .int) (.and (.not (.isi (.var 0) .bool)) (.cmp .Eq (.var 0) (.var 1))))) .skip) .skip) (.seq (.cond (.isi (.var 1) .str) (.seq (.ret (.and (.isi (.var 0) .str) (.cmp .Eq (.var 0) (.var 1)))) .skip) .skip) (.seq (.ret (.cmp .Is (.var 0) (.lit .non))) .skip))))))
def bAll (q : Nat) : SS := (.seq (.forS (.nm 2) (.rng1 (.bi .len (.cons (.var 1) .nil))) (.seq (.cond (.not (.call q (.cons (.ix (.var 0) (.var 2)) (.cons (.ix (.var 1) (.var 2)) .nil)))) (.seq (.ret (.lit (.bl false))) .skip) .skip) .skip)) (.seq (.ret (.lit (.bl true))) .skip))
theorem leq_int {q a : Nat} {bq : SS} (hb : bq = bEq1 a ∨ bq = bEq2 a) {nm nm2 : Str} {N N2 : List Str} (hq : G.fns[q]? = some ⟨nm, 2, N, [], bq⟩) (hN : N.length = 2) (k : Nat) (i : Int) (h : 1 ≤ k) : (fnEval G k q [.sh (.int i), .sh (.int i)]).res = .ok (.bl true) false := by
  obtain ⟨k, rfl⟩ : ∃ j, k = j + 1 := ⟨k - 1, by omega⟩
  rw [fn_at k [.sh (.int i), .sh (.int i)] [.sh (.int i), .sh (.int i)] hq rfl (by rw [hN]; rfl)]
  rcases hb with hb | hb <;> subst hb <;> simp [bEq1, bEq2, exR, evR, ofX, ofF, noR, R.out, R.bind, R.of, with1, with2, withs, Bor.res, Bor.frz, ress, frzs, bl2, dat, Sl.get?, Sl.frz, mkSl, D.mutb, D.flat, D.isNon, truD, binD, unD, augD, cmpD, eqD, scalD, ixD, isiD, Out.res, Res.put, mkArgs, lineOk, sizeLine_eq, ioAt]
theorem lall {q a : Nat} {nm nm2 : Str} {N N2 : List Str} {bq : SS} (hq : G.fns[q]? = some ⟨nm, 2, N, [], bq⟩) (ha : G.fns[a]? = some ⟨nm2, 2, N2, [], bAll q⟩) (hN2 : N2.length = 3) (k : Nat) (c ds : D) (l : List D) (hc : (c = .lst l) ∨ (c = .tup l)) (hl : l.length ≤ 1000000) (hd : ∀ d ∈ l, (fnEval G k q [.sh d, .sh d]).res = .ok (.bl true) false) : (fnEval G (k + 1) a [.sh c, .sh c]).res = .ok (.bl true) false := by
  rw [fn_at k [.sh c, .sh c] [.sh c, .sh c, .no] ha rfl (by rw [hN2]; rfl)]
  have hix : ∀ j : Nat, j < l.length → ixD c (.int j) = l[j]? := fun j hj => by
    rcases hc with rfl | rfl <;> exact at_nat hj
  have hlen : biD .len [c] = some (.int l.length, false) := by
    rcases hc with rfl | rfl <;> rfl
  obtain ⟨e', k1, x, k2⟩ := for_thru (tg := .nm 2) (body := (exR G (fnEval G k) [] (.seq (.cond (.not (.call q (.cons (.ix (.var 0) (.var 2)) (.cons (.ix (.var 1) (.var 2)) .nil)))) (.seq (.ret (.lit (.bl false))) .skip) .skip) .skip)).x)
    (fun i e => ∃ x, e = [.sh c, .sh c, x]) (rngL 0 l.length) 0 [.sh c, .sh c, .no] ⟨.no, rfl⟩ fun j d e hj ⟨x, hx⟩ => by
      subst hx
      have hlt : j < l.length := by
        have := (List.getElem?_eq_some_iff.mp hj).1
        rwa [rng_len] at this
      rw [rng_at hlt] at hj
      have hdd : d = .int (j : Int) := by simpa using hj.symm
      subst hdd
      have i1 := hix j hlt
      rw [List.getElem?_eq_getElem hlt] at i1
      have w := hd _ (List.getElem_mem hlt)
      have gq := fun e b0 b1 => goP hq (fnEval G k) [b0, b1] e rfl
      refine ⟨[.sh c, .sh c, .sh (.int j)], [.sh c, .sh c, .sh (.int j)], rfl, .inl ?_, _, rfl⟩
      have ht : (evR G (fnEval G k) (.not (.call q (.cons (.ix (.var 0) (.var 2)) (.cons (.ix (.var 1) (.var 2)) .nil))))).t [.sh c, .sh c, .sh (.int j)] = .ok false [.sh c, .sh c, .sh (.int j)] := by
        rcases hc with rfl | rfl <;> (simp only [ixD] at i1; simp [gq, i1, w, exR, evR, ofX, ofF, noR, R.out, R.bind, R.of, with1, with2, withs, Bor.res, Bor.frz, ress, frzs, bl2, dat, Sl.get?, Sl.frz, mkSl, D.mutb, D.flat, D.isNon, truD, binD, unD, augD, cmpD, eqD, scalD, ixD, isiD, Out.res, Res.put, mkArgs, lineOk, sizeLine_eq, ioAt])
      rw [seq_nx ((cond_ff ht).trans skip_nx)]
      rfl
  subst k2
  unfold bAll
  rw [seq_nx (for_nx (ds := rngL 0 l.length) (e1 := [.sh c, .sh c, .no]) rfl (by simp [hlen, smallI_nat (n := l.length) (by omega), exR, evR, ofX, ofF, noR, R.out, R.bind, R.of, with1, with2, withs, Bor.res, Bor.frz, ress, frzs, bl2, dat, Sl.get?, Sl.frz, mkSl, D.mutb, D.flat, D.isNon, truD, binD, unD, augD, cmpD, eqD, scalD, ixD, isiD, Out.res, Res.put, mkArgs, lineOk, sizeLine_eq, ioAt]) k1), seq_rt (ret_f (x := (.bl true, false)) (by intro i h; cases h) rfl)]
  rfl
theorem leq_seq {q a : Nat} {nm nm2 : Str} {N N2 : List Str} {bq : SS} (hb : bq = bEq1 a ∨ bq = bEq2 a) (hq : G.fns[q]? = some ⟨nm, 2, N, [], bq⟩) (hN : N.length = 2) (ha : G.fns[a]? = some ⟨nm2, 2, N2, [], bAll q⟩) (hN2 : N2.length = 3) (k : Nat) (c : D) (l : List D) (hc : (c = .lst l) ∨ (c = .tup l)) (hl : l.length ≤ 1000000) (hd : ∀ d ∈ l, (fnEval G k q [.sh d, .sh d]).res = .ok (.bl true) false) : (fnEval G (k + 2) q [.sh c, .sh c]).res = .ok (.bl true) false := by
  rw [fn_at (k + 1) [.sh c, .sh c] [.sh c, .sh c] hq rfl (by rw [hN]; rfl)]
  have w := lall hq ha hN2 k c .non l hc hl hd
  have ga := fun e b0 b1 => goP ha (fnEval G (k + 1)) [b0, b1] e rfl
  rcases hb with hb | hb <;> subst hb <;> rcases hc with rfl | rfl <;> simp [bEq1, bEq2, ga, w, biD, exR, evR, ofX, ofF, noR, R.out, R.bind, R.of, with1, with2, withs, Bor.res, Bor.frz, ress, frzs, bl2, dat, Sl.get?, Sl.frz, mkSl, D.mutb, D.flat, D.isNon, truD, binD, unD, augD, cmpD, eqD, scalD, ixD, isiD, Out.res, Res.put, mkArgs, lineOk, sizeLine_eq, ioAt]
end
end EV
/-! Lists compared with []. -/
namespace EV
open PySem
def scal : D → Bool
  | .int _ => true
  | .bl _ => true
  | .non => true
  | .str s => s.all fun c => decide (c < 0x110000)
  | _ => false
theorem scal_py : ∀ {xs : List D}, xs.all scal = true → ∃ ps, D.pys xs = some ps ∧ ps.length = xs.length ∧ PyData.canLayAll0 ps = true ∧ PyData.depthAll ps ≤ 1
  | [], _ => ⟨[], rfl, rfl, rfl, by simp [PyData.depthAll]⟩
  | x :: xs, h => by
    obtain ⟨h1, h2⟩ := and2 (show (scal x && xs.all scal) = true from h)
    obtain ⟨ps, q1, q2, q3, q4⟩ := scal_py h2
    cases x <;> try (cases h1)
    · exact ⟨.none :: ps, by simp [D.pys, D.py, q1], by simp [q2], by simp [PyData.canLayAll0, PyData.canLay0, q3], by simp [PyData.depthAll, PyData.depth]; omega⟩
    · rename_i b
      exact ⟨.bool b :: ps, by simp [D.pys, D.py, q1], by simp [q2], by simp [PyData.canLayAll0, PyData.canLay0, q3], by simp [PyData.depthAll, PyData.depth]; omega⟩
    · rename_i i
      exact ⟨.int i :: ps, by simp [D.pys, D.py, q1], by simp [q2], by simp [PyData.canLayAll0, PyData.canLay0, q3], by simp [PyData.depthAll, PyData.depth]; omega⟩
    · rename_i s
      refine ⟨.str ⟨s.toArray⟩ :: ps, by simp [D.pys, D.py, q1], by simp [q2], ?_, by simp [PyData.depthAll, PyData.depth]; omega⟩
      have hs : PyData.strOk ⟨s.toArray⟩ = true := by
        unfold PyData.strOk
        have h1' : (s.all fun c => decide (c < 0x110000)) = true := h1
        simpa using h1'
      simp [PyData.canLayAll0, PyData.canLay0, q3, hs]
theorem eq_nil {xs : List D} (h : xs.all scal = true) : eqD (.lst xs) (.lst []) = some xs.isEmpty := by
  obtain ⟨ps, q1, q2, q3, q4⟩ := scal_py h
  have s1 : SeqAt.shaped (.list ps) = true := Bool.and_eq_true_iff.mpr ⟨by simpa [PyData.canLay0] using q3, decide_eq_true (by simp [PyData.depth]; omega)⟩
  have s2 : SeqAt.shaped (.list []) = true := by decide
  unfold eqD
  simp only [scalD, D.py, q1, D.pys, Option.map_some, s1, s2, Bool.and_self, if_true]
  cases ps with
  | nil =>
    cases xs with
    | nil => rfl
    | cons _ _ => simp at q2
  | cons a ps =>
    cases xs with
    | nil => simp at q2
    | cons _ _ => rfl
theorem comp_nil {G : Cfg} {call : Nat → List Sl → FR} {el it c : SE} {tg : Tg} {own : List (Str × Nat)} {e e1 : Ev} {ys : List D} (h : (evR G call (.comp el tg it c own)).f e = .ok (.lst ys, true) e1) (hs : ys.all scal = true) :
    (evR G call (.cmp .Eq (.comp el tg it c own) (.lst .nil))).f e = .ok (.bl ys.isEmpty, false) e1 := by
  have g3 := comp_b h
  show with2 (evR G call (.comp el tg it c own)) (evR G call (.lst .nil)) e _ = _
  unfold with2
  rw [g3]
  show bl2 (eqD (.lst ys) (.lst [])) e1 = _
  rw [eq_nil hs] <;> rfl
theorem comp_nil_b {G : Cfg} {call : Nat → List Sl → FR} {el it c : SE} {tg : Tg} {own : List (Str × Nat)} {e e1 : Ev} {ys : List D} (h : (evR G call (.comp el tg it c own)).f e = .ok (.lst ys, true) e1) (hs : ys.all scal = true) :
    (evR G call (.cmp .Eq (.comp el tg it c own) (.lst .nil))).b e = .ok (.dat (.bl ys.isEmpty)) e1 := by
  show ((evR G call (.cmp .Eq (.comp el tg it c own) (.lst .nil))).f e).bind _ = _
  rw [comp_nil h hs]
  rfl
end EV
/-! Comprehensions whose items change nothing; ranges; walks. -/
namespace EV
open PySem
theorem rng_range (n : Nat) : rngL 0 n = (List.range n).map nD := by
  have e := rngL_nat n 0
  rw [show ((0 : Nat) : Int) = 0 from rfl] at e
  rw [e, List.range_eq_range']
  rfl
theorem set_getD (e : Ev) : ∀ v : Nat, e.set v (e.getD v .no) = e := by
  induction e with
  | nil => intro v; rfl
  | cons a e ih =>
    intro v
    cases v with
    | zero => rfl
    | succ v =>
      have := ih v
      simp only [List.set_cons_succ, List.getD_cons_succ]
      rw [this]
section
variable {G : Cfg} {call : Nat → List Sl → FR}
theorem comp_det {α : Type} {el it c : SE} {v : Nat} {s : Str} {e e1 : Ev} (l : List α) (h : α → D) (P : α → Bool) (g : α → D)
    (hit : (evR G call it).i e = .ok (l.map h) e1) (hl : l.length ≤ 1000000)
    (hc : ∀ a ∈ l, (evR G call c).t (e1.set v (.sh (h a))) = .ok (P a) (e1.set v (.sh (h a))))
    (he : ∀ a ∈ l, P a = true → ∃ fr, (evR G call el).f (e1.set v (.sh (h a))) = .ok (g a, fr) (e1.set v (.sh (h a)))) :
    (evR G call (.comp el (.nm v) it c [(s, v)])).f e = .ok (.lst ((l.filter P).map g), true) e1 := by
  have key : ∀ (l : List α) (acc : List D) (e' : Ev), acc.length + l.length ≤ sizeLine → (∃ x, e' = e1.set v x) →
      (∀ a ∈ l, (evR G call c).t (e1.set v (.sh (h a))) = .ok (P a) (e1.set v (.sh (h a)))) →
      (∀ a ∈ l, P a = true → ∃ fr, (evR G call el).f (e1.set v (.sh (h a))) = .ok (g a, fr) (e1.set v (.sh (h a)))) →
      ∃ x, compL [v] (.nm v) (evR G call c).t (evR G call el).f (l.map h) acc e' = .ok (acc ++ (l.filter P).map g) (e1.set v x) := by
    intro l
    induction l with
    | nil =>
      rintro acc _ _ ⟨x, rfl⟩ _ _
      refine ⟨.no, ?_⟩
      simp [compL, wipeE]
    | cons a l ih =>
      rintro acc _ hl ⟨x, rfl⟩ hc he
      rw [List.length_cons] at hl
      rw [List.map_cons]
      unfold compL
      have h1 : tgD (.nm v) (h a) (wipeE (e1.set v x) [v]) = some (e1.set v (.sh (h a))) := by simp [tgD, wipeE]
      rw [h1]
      simp only
      rw [hc a List.mem_cons_self]
      cases hp : P a with
      | false =>
        obtain ⟨y, k1⟩ := ih acc (e1.set v (.sh (h a))) (by omega) ⟨_, rfl⟩ (fun b hb => hc b (List.mem_cons_of_mem _ hb)) (fun b hb => he b (List.mem_cons_of_mem _ hb))
        exact ⟨y, by simp only [List.filter_cons, hp]; exact k1⟩
      | true =>
        obtain ⟨fr, h2⟩ := he a List.mem_cons_self hp
        simp only [h2]
        obtain ⟨y, k1⟩ := ih (acc ++ [g a]) (e1.set v (.sh (h a))) (by rw [List.length_append]; simp; omega) ⟨_, rfl⟩ (fun b hb => hc b (List.mem_cons_of_mem _ hb)) (fun b hb => he b (List.mem_cons_of_mem _ hb))
        refine ⟨y, ?_⟩
        rw [if_pos (by simp; omega), k1]
        simp [List.filter_cons, hp]
  obtain ⟨x, k1⟩ := key l [] e1 (by rw [sizeLine_eq]; simp; omega) ⟨e1.getD v .no, (set_getD e1 v).symm⟩ hc he
  rw [List.nil_append] at k1
  refine comp_ok hit k1 ?_
  show ((e1.set v x).set v (e1.getD v .no)) = e1
  rw [List.set_set]
  exact set_getD e1 v
/-- no condition -/
theorem comp_all {α : Type} {el it : SE} {v : Nat} {s : Str} {e e1 : Ev} (l : List α) (h : α → D) (g : α → D)
    (hit : (evR G call it).i e = .ok (l.map h) e1) (hl : l.length ≤ 1000000)
    (he : ∀ a ∈ l, ∃ fr, (evR G call el).f (e1.set v (.sh (h a))) = .ok (g a, fr) (e1.set v (.sh (h a)))) :
    (evR G call (.comp el (.nm v) it .nop [(s, v)])).f e = .ok (.lst (l.map g), true) e1 := by
  have := comp_det (G := G) (call := call) (el := el) (it := it) (c := .nop) (v := v) (s := s) l h (fun _ => true) g hit hl (fun a _ => rfl) (fun a ha _ => he a ha)
  rw [this]
  have hf : l.filter (fun _ => true) = l := by simp
  rw [hf]
theorem rng1_i {a : SE} {e e1 : Ev} {n : Nat} {fr : Bool} (h : (evR G call a).f e = .ok (nD n, fr) e1) (hn : n < 1000000000) : (evR G call (.rng1 a)).i e = .ok ((List.range n).map nD) e1 := by
  show (((evR G call a).f e).bind fun x e1 => match x.1 with
      | .int j => if smallI j then .ok (rngL 0 j.toNat) e1 else .st
      | _ => .st) = _
  rw [h]
  show (if smallI (n : Int) = true then R.ok (rngL 0 (n : Int).toNat) e1 else .st) = _
  rw [if_pos (smallI_nat hn), Int.toNat_natCast, rng_range]
theorem rng2_i {a b : SE} {e e1 e2 : Ev} {n m : Nat} {fr fr2 : Bool} (h : (evR G call a).f e = .ok (nD m, fr) e1) (h2 : (evR G call b).f e1 = .ok (nD n, fr2) e2) (hm : m < 1000000000) (hn : n < 1000000000) : (evR G call (.rng2 a b)).i e = .ok ((List.range (n - m)).map fun j => nD (m + j)) e2 := by
  show (((evR G call a).f e).bind fun x e1 => ((evR G call b).f e1).bind fun y e2 => match x.1, y.1 with
      | .int i, .int j => if smallI i && smallI j then R.ok (rngL i (j - i).toNat) e2 else .st
      | _, _ => .st) = _
  rw [h]
  show (((evR G call b).f e1).bind fun y e2 => match (nD m), y.1 with
      | .int i, .int j => if smallI i && smallI j then R.ok (rngL i (j - i).toNat) e2 else .st
      | _, _ => .st) = _
  rw [h2]
  show (if (smallI (m : Int) && smallI (n : Int)) = true then R.ok (rngL (m : Int) ((n : Int) - (m : Int)).toNat) e2 else .st) = _
  rw [smallI_nat hm, smallI_nat hn, Bool.and_self, if_pos rfl, rngL_nat, show ((n : Int) - (m : Int)).toNat = n - m by omega, List.range'_eq_map_range, List.map_map]
  rfl
theorem lst_i {a : SE} {e e1 : Ev} {l : List D} {fr : Bool} (h : (evR G call a).f e = .ok (.lst l, fr) e1) (ha : (evR G call a).i e = (((evR G call a).f e).bind fun x e1 => R.of (itemsD x.1) e1)) : (evR G call a).i e = .ok l e1 := by
  rw [ha, h]
  rfl
end
theorem strs_map (l : List Nat) : strs? (l.map fun c => D.str [c]) = some (l.map fun c => [c]) := by
  induction l with
  | nil => rfl
  | cons a l ih => simp [strs?, ih]
theorem join_codes (l : List Nat) (hl : l.length ≤ 1000000) : meD .join (.str []) [.lst (l.map fun c => .str [c])] = some (.str l, false) := by
  have h1 : ((l.map fun c => [c]).map List.length).sum = l.length := by
    rw [List.map_map]
    clear hl
    induction l with
    | nil => rfl
    | cons a l ih =>
      simp only [List.map_cons, List.sum_cons, Function.comp, List.length_cons, List.length_nil] at ih ⊢
      omega
  have hj : TL.joinL [] (l.map fun c => [c]) = l := by
    clear h1 hl
    induction l with
    | nil => rfl
    | cons a l ih => cases l with
      | nil => rfl
      | cons b l => simp_all [TL.joinL]
  show (match strs? (l.map fun c => D.str [c]) with
    | some zs => if lineOk ((zs.map List.length).sum + zs.length * ([] : List Nat).length) then some (D.str (TL.joinL [] zs), false) else none
    | none => none) = _
  rw [strs_map]
  show (if lineOk (((l.map fun c => [c]).map List.length).sum + (l.map fun c => [c]).length * 0) = true then some (D.str (TL.joinL [] (l.map fun c => [c])), false) else none) = _
  rw [h1, if_pos (show lineOk _ = true from decide_eq_true (by rw [sizeLine_eq]; omega)), hj]
end EV
/-! whole numbers from 0 on -/
namespace EV
open PySem
theorem nd0 : D.int 0 = nD 0 := rfl
theorem nd1 : D.int 1 = nD 1 := rfl
theorem ndl (n : Nat) : D.int (no_index (@OfNat.ofNat Int n _)) = nD (@OfNat.ofNat Nat n _) := rfl
theorem ndc (n : Nat) : D.int (n : Int) = nD n := rfl
theorem nAdd (a b : Nat) : binD .Add (nD a) (nD b) = some (nD (a + b), false) := rfl
theorem nSub {a b : Nat} (h : b ≤ a) : binD .Sub (nD a) (nD b) = some (nD (a - b), false) := by
  show some (D.int ((a : Int) - (b : Int)), false) = some (D.int ((a - b : Nat) : Int), false)
  rw [Int.ofNat_sub h]
theorem nMul {a b : Nat} (h : a ≤ 18446744073709551615 ∨ b ≤ 18446744073709551615) : binD .Mult (nD a) (nD b) = some (nD (a * b), false) := by
  show (if cMul (a : Int) (b : Int) = true then some (D.int ((a : Int) * (b : Int)), false) else none) = _
  rw [if_pos]
  · rfl
  · rcases h with h | h
    · exact cMul_l (by rw [Int.natAbs_natCast]; exact h)
    · exact cMul_r (by rw [Int.natAbs_natCast]; exact h)
theorem nDiv {a b : Nat} (h1 : 0 < b) (h2 : b ≤ 1073741823) : binD .FloorDiv (nD a) (nD b) = some (nD (a / b), false) := by
  show (if (decide (0 < (b : Int)) && Nat.ble ((b : Int)).natAbs 1073741823) = true then some (D.int ((a : Int) / (b : Int)), false) else none) = _
  rw [show decide (0 < (b : Int)) = true from decide_eq_true (by omega), show Nat.ble ((b : Int)).natAbs 1073741823 = true from Nat.ble_eq_true_of_le (by rw [Int.natAbs_natCast]; exact h2)]
  rfl
theorem nMod {a b : Nat} (h1 : 0 < b) : binD .Mod (nD a) (nD b) = some (nD (a % b), false) := by
  show (if decide (0 < (b : Int)) = true then some (D.int ((a : Int) % (b : Int)), false) else none) = _
  rw [show decide (0 < (b : Int)) = true from decide_eq_true (by omega)]
  rfl
theorem nShl {b : Nat} (a : Nat) (h1 : a ≤ 18446744073709551615) (h : b ≤ 1000000) : binD .LShift (nD a) (nD b) = some (nD (a * 2 ^ b), false) := by
  show (if cPow (a : Int) (b : Int) = true then some (D.int ((a : Int) * 2 ^ (b : Int).toNat), false) else none) = _
  rw [if_pos]
  · rw [Int.toNat_natCast]
    simp [nD]
  · unfold cPow
    rw [show decide (0 ≤ (b : Int)) = true from decide_eq_true (by omega), show Nat.ble ((b : Int)).natAbs 1000000 = true from Nat.ble_eq_true_of_le (by rw [Int.natAbs_natCast]; exact h), show Nat.ble ((a : Int)).natAbs 18446744073709551615 = true from Nat.ble_eq_true_of_le (by rw [Int.natAbs_natCast]; exact h1)]
    rfl
theorem nShr (a b : Nat) : binD .RShift (nD a) (nD b) = some (nD (a / 2 ^ b), false) := by
  show (if decide (0 ≤ (b : Int)) = true then some (D.int ((a : Int) / 2 ^ (b : Int).toNat), false) else none) = _
  rw [show decide (0 ≤ (b : Int)) = true from decide_eq_true (by omega), Int.toNat_natCast]
  simp [nD]
theorem nAnd (a b : Nat) : binD .BitAnd (nD a) (nD b) = some (nD (a &&& b), false) := by
  show some (D.int (Builtin.bitAnd (a : Int) (b : Int)), false) = _
  rw [and_nat]
  rfl
theorem nXor (a b : Nat) : binD .BitXor (nD a) (nD b) = some (nD (a ^^^ b), false) := by
  show some (D.int (Builtin.bitXor (a : Int) (b : Int)), false) = _
  rw [xor_nat]
  rfl
theorem nPow {a b : Nat} (h1 : a ≤ 18446744073709551615) (h : b ≤ 1000000) : binD .Pow (nD a) (nD b) = some (nD (a ^ b), false) := by
  show (if cPow (a : Int) (b : Int) = true then some (D.int ((a : Int) ^ (b : Int).toNat), false) else none) = _
  rw [if_pos]
  · rw [Int.toNat_natCast]
    simp [nD]
  · unfold cPow
    rw [show decide (0 ≤ (b : Int)) = true from decide_eq_true (by omega), show Nat.ble ((b : Int)).natAbs 1000000 = true from Nat.ble_eq_true_of_le (by rw [Int.natAbs_natCast]; exact h), show Nat.ble ((a : Int)).natAbs 18446744073709551615 = true from Nat.ble_eq_true_of_le (by rw [Int.natAbs_natCast]; exact h1)]
    rfl
theorem sAdd {a b : List Nat} (h : a.length + b.length ≤ 1000000) : binD .Add (.str a) (.str b) = some (.str (a ++ b), false) := by
  show (if lineOk (a.length + b.length) = true then some (D.str (a ++ b), false) else none) = _
  rw [if_pos (show lineOk _ = true from decide_eq_true (by rw [sizeLine_eq]; omega))]
theorem lAdd {a b : List D} (h : a.length + b.length ≤ 1000000) : binD .Add (.lst a) (.lst b) = some (.lst (a ++ b), true) := by
  show (if lineOk (a.length + b.length) = true then some (D.lst (a ++ b), true) else none) = _
  rw [if_pos (show lineOk _ = true from decide_eq_true (by rw [sizeLine_eq]; omega))]
theorem rAdd {a b : List Nat} (h : a.length + b.length ≤ 1000000) : binD .Add (rowsD a) (rowsD b) = some (rowsD (a ++ b), true) := by
  unfold rowsD
  rw [lAdd (by simpa using h), List.map_append]
theorem tAdd {a b : List D} (h : a.length + b.length ≤ 1000000) : binD .Add (.tup a) (.tup b) = some (.tup (a ++ b), false) := by
  show (if lineOk (a.length + b.length) = true then some (D.tup (a ++ b), false) else none) = _
  rw [if_pos (show lineOk _ = true from decide_eq_true (by rw [sizeLine_eq]; omega))]
theorem lMul {a : List D} {n : Nat} (h : a.length * n ≤ 1000000) (h2 : n ≤ 1000000) : binD .Mult (.lst a) (nD n) = some (.lst (List.replicate n a).flatten, true) := by
  simp only [nD, binD, Int.toNat_natCast]
  rw [if_pos]
  rw [Bool.and_eq_true]
  exact ⟨Nat.ble_eq_true_of_le (by omega), decide_eq_true (by rw [sizeLine_eq]; omega)⟩
theorem sMul {a : List Nat} {n : Nat} (h : a.length * n ≤ 1000000) (h2 : n ≤ 1000000) : binD .Mult (.str a) (nD n) = some (.str (List.replicate n a).flatten, false) := by
  simp only [nD, binD, Int.toNat_natCast]
  rw [if_pos]
  rw [Bool.and_eq_true]
  exact ⟨Nat.ble_eq_true_of_le (by omega), decide_eq_true (by rw [sizeLine_eq]; omega)⟩
theorem cEqN (a b : Nat) : cmpD .Eq (nD a) (nD b) = some (decide (a = b)) := by
  show some (decide ((a : Int) = (b : Int))) = _
  congr 1
  exact decide_eq_decide.mpr (by omega)
theorem cEqS (a b : List Nat) : cmpD .Eq (.str a) (.str b) = some (decide (a = b)) := rfl
theorem cEqB (a b : Bool) : cmpD .Eq (.bl a) (.bl b) = some (decide (a = b)) := rfl
theorem cNeN (a b : Nat) : cmpD .NotEq (nD a) (nD b) = some (!decide (a = b)) := by
  show (cmpD .Eq (nD a) (nD b)).map (!·) = _
  rw [cEqN]
  rfl
theorem cNeS (a b : List Nat) : cmpD .NotEq (.str a) (.str b) = some (!decide (a = b)) := rfl
theorem cNeB (a b : Bool) : cmpD .NotEq (.bl a) (.bl b) = some (!decide (a = b)) := rfl
theorem cLt (a b : Nat) : cmpD .Lt (nD a) (nD b) = some (decide (a < b)) := by
  show some (decide ((a : Int) < (b : Int))) = _
  congr 1
  exact decide_eq_decide.mpr (by omega)
theorem cLe (a b : Nat) : cmpD .LtE (nD a) (nD b) = some (decide (a ≤ b)) := by
  show some (decide ((a : Int) ≤ (b : Int))) = _
  congr 1
  exact decide_eq_decide.mpr (by omega)
theorem cGt (a b : Nat) : cmpD .Gt (nD a) (nD b) = some (decide (b < a)) := by
  show some (decide ((b : Int) < (a : Int))) = _
  congr 1
  exact decide_eq_decide.mpr (by omega)
theorem cGe (a b : Nat) : cmpD .GtE (nD a) (nD b) = some (decide (b ≤ a)) := by
  show some (decide ((b : Int) ≤ (a : Int))) = _
  congr 1
  exact decide_eq_decide.mpr (by omega)
theorem cIs (x : D) : cmpD .Is x .non = some x.isNon := rfl
theorem cIsN (x : D) : cmpD .IsNot x .non = some (!x.isNon) := rfl
theorem isNonN (a : Nat) : (nD a).isNon = false := rfl
theorem isNonS (a : List Nat) : (D.str a).isNon = false := rfl
theorem isNonL (a : List D) : (D.lst a).isNon = false := rfl
theorem isNonR (a : List Nat) : (rowsD a).isNon = false := rfl
theorem isNonT (a : List D) : (D.tup a).isNon = false := rfl
theorem isNonB (a : Bool) : (D.bl a).isNon = false := rfl
theorem isNon0 : (D.non).isNon = true := rfl
theorem inS (c : Nat) (z : List Nat) : cmpD .In (.str [c]) (.str z) = some (decide (c ∈ z)) := rfl
theorem ninS (c : Nat) (z : List Nat) : cmpD .NotIn (.str [c]) (.str z) = some (!decide (c ∈ z)) := rfl
theorem tN (a : Nat) : truD (nD a) = some (!decide (a = 0)) := by
  show some ((a : Int) != 0) = _
  congr 1
  cases a with
  | zero => rfl
  | succ a =>
    have : ((a + 1 : Nat) : Int) ≠ 0 := by omega
    rw [decide_eq_false (Nat.succ_ne_zero a)]
    exact bne_iff_ne.mpr this
theorem tB (a : Bool) : truD (.bl a) = some a := rfl
theorem tL (a : List D) : truD (.lst a) = some (!a.isEmpty) := rfl
theorem tT (a : List D) : truD (.tup a) = some (!a.isEmpty) := rfl
theorem tR (a : List Nat) : truD (rowsD a) = some (!a.isEmpty) := by
  show some (!(a.map nD).isEmpty) = _
  rw [List.isEmpty_map]
theorem t0 : truD .non = some false := rfl
theorem bLenL (a : List D) : biD .len [.lst a] = some (nD a.length, false) := rfl
theorem bLenT (a : List D) : biD .len [.tup a] = some (nD a.length, false) := rfl
theorem bLenR (a : List Nat) : biD .len [rowsD a] = some (nD a.length, false) := by
  show some (nD (a.map nD).length, false) = _
  rw [List.length_map]
theorem bLenS {a : List Nat} (h : a.length ≤ 1000000) : biD .len [.str a] = some (nD a.length, false) := by
  show (if lineOk a.length = true then some (D.int a.length, false) else none) = _
  rw [if_pos (show lineOk _ = true from decide_eq_true (by rw [sizeLine_eq]; omega))]
  rfl
theorem bIntN (a : Nat) : biD .intF [nD a] = some (nD a, false) := rfl
theorem bMin (a b : Nat) : biD .min2 [nD a, nD b] = some (nD (min a b), false) := by
  show some (D.int (if (b : Int) < (a : Int) then (b : Int) else (a : Int)), false) = some (D.int ((min a b : Nat) : Int), false)
  congr 3
  split <;> omega
theorem bMax (a b : Nat) : biD .max2 [nD a, nD b] = some (nD (max a b), false) := by
  show some (D.int (if (b : Int) > (a : Int) then (b : Int) else (a : Int)), false) = some (D.int ((max a b : Nat) : Int), false)
  congr 3
  split <;> omega
theorem bSum (l : List Nat) : biD .sum [rowsD l] = some (nD l.sum, false) := sum_d l
theorem bLstL (a : List D) : biD .listF [.lst a] = some (.lst a, true) := rfl
theorem bLstT (a : List D) : biD .listF [.tup a] = some (.lst a, true) := rfl
theorem bTupL (a : List D) : biD .tupleF [.lst a] = some (.tup a, false) := rfl
theorem bTupT (a : List D) : biD .tupleF [.tup a] = some (.tup a, false) := rfl
theorem ixL {l : List D} {j : Nat} (h : j < l.length) : ixD (.lst l) (nD j) = some (l.getD j .non) := by
  show L2.atI l (j : Int) = _
  rw [at_nat h, List.getD_eq_getElem?_getD, List.getElem?_eq_getElem h]
  rfl
theorem ixT {l : List D} {j : Nat} (h : j < l.length) : ixD (.tup l) (nD j) = some (l.getD j .non) := ixL (l := l) h
theorem ixR {l : List Nat} {j : Nat} (h : j < l.length) : ixD (rowsD l) (nD j) = some (nD (l.getD j 0)) := at_row h
theorem ixM {α : Type} {l : List α} {f : α → D} {j : Nat} (x : α) (h : j < l.length) : ixD (.lst (l.map f)) (nD j) = some (f (l.getD j x)) := by
  rw [ixL (by simpa using h), List.getD_eq_getElem?_getD, List.getD_eq_getElem?_getD, List.getElem?_map, List.getElem?_eq_getElem h]
  rfl
theorem ixS {s : List Nat} {j : Nat} (h : j < s.length) (hl : s.length ≤ 1000000) : ixD (.str s) (nD j) = some (.str [s.getD j 0]) := by
  show (if lineOk s.length = true then (L2.atI s (j : Int)).map fun c => D.str [c] else none) = _
  rw [if_pos (show lineOk s.length = true from decide_eq_true (by rw [sizeLine_eq]; omega)), at_nat h, List.getD_eq_getElem?_getD, List.getElem?_eq_getElem h]
  rfl
theorem isiN (a : Nat) (t : Ty) : isiD (nD a) t = some (decide (t = .int)) := by cases t <;> rfl
theorem isiR (a : List Nat) (t : Ty) : isiD (rowsD a) t = some (decide (t = .list)) := by cases t <;> rfl
theorem flatN (a : Nat) : (nD a).flat = true := rfl
theorem flatR (a : List Nat) : (rowsD a).flat = false := rfl
theorem mutN (a : Nat) : (nD a).mutb = false := rfl
theorem mutR (a : List Nat) : (rowsD a).mutb = true := rfl
theorem flat0 : (D.non).flat = true := rfl
theorem flatB (a : Bool) : (D.bl a).flat = true := rfl
theorem flatI (a : Int) : (D.int a).flat = true := rfl
theorem flatS (a : List Nat) : (D.str a).flat = true := rfl
theorem flatF (a : Nat) : (D.fn a).flat = true := rfl
theorem flatL (a : List D) : (D.lst a).flat = false := rfl
theorem flatT (a : List D) : (D.tup a).flat = false := rfl
theorem flatD (a b : List D) : (D.dct a b).flat = false := rfl
theorem mut0 : (D.non).mutb = false := rfl
theorem mutB (a : Bool) : (D.bl a).mutb = false := rfl
theorem mutI (a : Int) : (D.int a).mutb = false := rfl
theorem mutS (a : List Nat) : (D.str a).mutb = false := rfl
theorem mutF (a : Nat) : (D.fn a).mutb = false := rfl
theorem mutL (a : List D) : (D.lst a).mutb = true := rfl
theorem mutT (a : List D) : (D.tup a).mutb = false := rfl
theorem mutD (a b : List D) : (D.dct a b).mutb = true := rfl
theorem isi0 (t : Ty) : isiD .non t = some false := rfl
theorem isiB (a : Bool) (t : Ty) : isiD (.bl a) t = some (decide (t = .bool) || decide (t = .int)) := by cases t <;> rfl
theorem isiI (a : Int) (t : Ty) : isiD (.int a) t = some (decide (t = .int)) := by cases t <;> rfl
theorem isiS (a : List Nat) (t : Ty) : isiD (.str a) t = some (decide (t = .str)) := by cases t <;> rfl
theorem isiL (a : List D) (t : Ty) : isiD (.lst a) t = some (decide (t = .list)) := by cases t <;> rfl
theorem isiT (a : List D) (t : Ty) : isiD (.tup a) t = some (decide (t = .tuple)) := by cases t <;> rfl
theorem isiDc (a b : List D) (t : Ty) : isiD (.dct a b) t = some (decide (t = .dict)) := by cases t <;> rfl
theorem itR (a : List Nat) : itemsD (rowsD a) = some (a.map nD) := rfl
theorem itL (a : List D) : itemsD (.lst a) = some a := rfl
theorem itT (a : List D) : itemsD (.tup a) = some a := rfl
theorem itS (a : List Nat) : itemsD (.str a) = some (a.map fun c => .str [c]) := rfl
theorem cNilR (a : List Nat) : cmpD .Eq (rowsD a) (.lst []) = some a.isEmpty := by
  show eqD (.lst (a.map nD)) (.lst []) = _
  rw [eq_nil (by rw [List.all_map, List.all_eq_true]; exact fun _ _ => rfl), List.isEmpty_map]
theorem cNilN (a : List Nat) : cmpD .NotEq (rowsD a) (.lst []) = some (!a.isEmpty) := by
  show (cmpD .Eq (rowsD a) (.lst [])).map (!·) = _
  rw [cNilR]
  rfl
theorem cNilL {a : List D} (h : a.all scal = true) : cmpD .Eq (.lst a) (.lst []) = some a.isEmpty := eq_nil h
theorem cNilM {a : List D} (h : a.all scal = true) : cmpD .NotEq (.lst a) (.lst []) = some (!a.isEmpty) := by
  show (cmpD .Eq (.lst a) (.lst [])).map (!·) = _
  rw [cNilL h]
  rfl
theorem meTyJ (s : List Nat) : meTy .join (.str s) = true := rfl
theorem join_map {α : Type} (l : List α) (g : α → Nat) (hl : l.length ≤ 1000000) : meD .join (.str []) [.lst (l.map fun a => .str [g a])] = some (.str (l.map g), false) := by
  have := join_codes (l.map g) (by simpa using hl)
  rw [List.map_map] at this
  exact this
theorem cut_to {α : Type} {xs : List α} {j : Nat} (h : j ≤ xs.length) : cutD xs none (some (j : Int)) = xs.take j := by
  unfold cutD
  have e1 : HT.sIx xs.length xs.length (some (j : Int)) = j := by
    rw [HT.sIx_nat]
    omega
  have e2 : HT.sIx xs.length 0 none = 0 := rfl
  rw [e1, e2]
  simp
theorem cut_from {α : Type} {xs : List α} {j : Nat} (h : j ≤ xs.length) : cutD xs (some (j : Int)) none = xs.drop j := by
  unfold cutD
  have e1 : HT.sIx xs.length 0 (some (j : Int)) = j := by
    rw [HT.sIx_nat]
    omega
  have e2 : HT.sIx xs.length xs.length none = xs.length := rfl
  rw [e1, e2]
  exact List.take_of_length_le (by simp)
theorem cut_mid {α : Type} {xs : List α} {i j : Nat} (h : i ≤ xs.length) (h2 : j ≤ xs.length) : cutD xs (some (i : Int)) (some (j : Int)) = (xs.drop i).take (j - i) := by
  unfold cutD
  have e1 : HT.sIx xs.length 0 (some (i : Int)) = i := by
    rw [HT.sIx_nat]
    omega
  have e2 : HT.sIx xs.length xs.length (some (j : Int)) = j := by
    rw [HT.sIx_nat]
    omega
  rw [e1, e2]
section
variable {G : Cfg} {call : Nat → List Sl → FR}
theorem sl_to {a h : SE} {e e1 e2 : Ev} {d : D} {j : Nat} {fr : Bool} (ha : (evR G call a).b e = .ok (.dat d) e1) (hh : (evR G call h).f e1 = .ok (nD j, fr) e2) (ho : (evR G call h).o e1 = (((evR G call h).f e1).bind fun x e1 => match x.1 with
    | .int i => .ok (some i) e1
    | _ => .st)) : (evR G call (.sl a .nop h)).f e = R.of (slD d none (some (j : Int))) e2 := by
  show (((evR G call a).b e).bind fun x e1 => ((evR G call .nop).o e1).bind fun l e2 => ((evR G call h).o e2).bind fun h e3 => match x.res e3 with
    | some d => R.of (slD d l h) e3
    | none => .st) = _
  rw [ha]
  show (((evR G call h).o e1).bind fun h e3 => match (Bor.dat d).res e3 with
    | some d => R.of (slD d none h) e3
    | none => .st) = _
  rw [ho, hh]
  rfl
theorem sl_from {a l : SE} {e e1 e2 : Ev} {d : D} {j : Nat} {fr : Bool} (ha : (evR G call a).b e = .ok (.dat d) e1) (hl : (evR G call l).f e1 = .ok (nD j, fr) e2) (ho : (evR G call l).o e1 = (((evR G call l).f e1).bind fun x e1 => match x.1 with
    | .int i => .ok (some i) e1
    | _ => .st)) : (evR G call (.sl a l .nop)).f e = R.of (slD d (some (j : Int)) none) e2 := by
  show (((evR G call a).b e).bind fun x e1 => ((evR G call l).o e1).bind fun l e2 => ((evR G call .nop).o e2).bind fun h e3 => match x.res e3 with
    | some d => R.of (slD d l h) e3
    | none => .st) = _
  rw [ha]
  show (((evR G call l).o e1).bind fun l e2 => ((evR G call .nop).o e2).bind fun h e3 => match (Bor.dat d).res e3 with
    | some d => R.of (slD d l h) e3
    | none => .st) = _
  rw [ho, hl]
  rfl
end
end EV
/-! Steps through a body; the law's own equality of anything. -/
namespace EV
open PySem
def Ret (o : Out) : Prop := ∃ fr e, o.fr = .ok (.bl true) fr e
def Is (r : Res) (o : Out) : Prop := o.res = r
section
variable {G : Cfg} {call : Nat → List Sl → FR} {io : List Bool} {a c it : SE} {s r : SS} {i : Nat} {e e1 e2 : Ev} {x : D × Bool} (P : Out → Prop)
theorem go_nx (h : (exR G call io s).x e = .nx e1) (k : P ((exR G call io r).x e1)) : P ((exR G call io (.seq s r)).x e) := by
  rw [seq_nx h]
  exact k
theorem go_asg (h : (evR G call a).f e = .ok x e1) (hi : ioAt io i = false) (k : P ((exR G call io r).x (e1.set i (mkSl x.1 x.2)))) : P ((exR G call io (.seq (.asg i a) r)).x e) := go_nx P (asg_nx h hi) k
theorem go_expr (h : (evR G call a).f e = .ok x e1) (k : P ((exR G call io r).x e1)) : P ((exR G call io (.seq (.expr a) r)).x e) := go_nx P (expr_nx h) k
theorem go_expr_er {n : Nat} (h : (evR G call a).f e = .er n e1) (k : P (.er n e1)) : P ((exR G call io (.seq (.expr a) r)).x e) := by
  rw [seq_er (expr_er h)]
  exact k
theorem go_asgT {is : List Nat} (h : (evR G call a).f e = .ok x e1) (hi : is.all (fun i => !ioAt io i) = true) (ht : tgD (.tp is) x.1 e1 = some e2) (k : P ((exR G call io r).x e2)) : P ((exR G call io (.seq (.asgT is a) r)).x e) := by
  refine go_nx P ?_ k
  show (if is.all (fun i => !ioAt io i) = true then ((evR G call a).f e).out fun x e1 => match tgD (.tp is) x.1 e1 with
      | some e2 => Out.nx e2
      | none => .st
    else .st) = _
  rw [if_pos hi, h]
  show (match tgD (.tp is) x.1 e1 with
      | some e2 => Out.nx e2
      | none => .st) = _
  rw [ht]
theorem go_ff (h : (evR G call c).t e = .ok false e1) (k : P ((exR G call io r).x e1)) : P ((exR G call io (.seq (.cond c s .skip) r)).x e) := go_nx P ((cond_ff h).trans skip_nx) k
theorem go_tt {b : SS} (h : (evR G call c).t e = .ok true e1) (hs : (exR G call io s).x e1 = .nx e2) (k : P ((exR G call io r).x e2)) : P ((exR G call io (.seq (.cond c s b) r)).x e) := go_nx P ((cond_tt h).trans hs) k
theorem go_tt_rt {b : SS} {d : D} {fr : Bool} (h : (evR G call c).t e = .ok true e1) (hs : (exR G call io s).x e1 = .rt d fr e2) (k : P (.rt d fr e2)) : P ((exR G call io (.seq (.cond c s b) r)).x e) := by
  rw [seq_rt ((cond_tt h).trans hs)]
  exact k
theorem go_tt_er {b : SS} {n : Nat} (h : (evR G call c).t e = .ok true e1) (hs : (exR G call io s).x e1 = .er n e2) (k : P (.er n e2)) : P ((exR G call io (.seq (.cond c s b) r)).x e) := by
  rw [seq_er ((cond_tt h).trans hs)]
  exact k
theorem go_ret (hv : ∀ i, a ≠ .var i) (h : (evR G call a).f e = .ok x e1) (k : P (.rt x.1 x.2 e1)) : P ((exR G call io (.seq (.ret a) r)).x e) := by
  rw [seq_rt (ret_f hv h)]
  exact k
theorem go_for {tg : Tg} {b : SS} {ds : List D} (hio : tgOk io tg = true) (h : (evR G call it).i e = .ok ds e1) (h2 : forL tg (exR G call io b).x ds e1 = .nx e2) (k : P ((exR G call io r).x e2)) : P ((exR G call io (.seq (.forS tg it b) r)).x e) := go_nx P (for_nx hio h h2) k
end
theorem callv_f {G : Cfg} {call : Nat → List Sl → FR} {i f : Nat} {fi : Fn} {xs : SE} {e e1 : Ev} {bs : List Bor} (h : e.getD i .no = .sh (.fn f)) (hf : G.fns[f]? = some fi) (hb : (evR G call xs).bs e = .ok bs e1) : (evR G call (.callv i xs)).f e = goCall G call f bs e1 := by
  show (match e.getD i .no with
    | .sh (.fn f) => match G.fns[f]? with
      | some _ => ((evR G call xs).bs e).bind fun bs e1 => goCall G call f bs e1
      | none => .st
    | _ => .st) = _
  rw [h]
  show (match G.fns[f]? with
      | some _ => ((evR G call xs).bs e).bind fun bs e1 => goCall G call f bs e1
      | none => .st) = _
  rw [hf]
  show ((evR G call xs).bs e).bind _ = _
  rw [hb]
  rfl
theorem try_er {G : Cfg} {call : Nat → List Sl → FR} {io : List Bool} {b hs : SS} {c : Nat} {e e1 : Ev} (h : (exR G call io b).x e = .er c e1) : (exR G call io (.tryS b hs)).x e = (exR G call io hs).h c e1 := by
  show (match (exR G call io b).x e with
    | .er c e1 => (exR G call io hs).h c e1
    | o => o) = _
  rw [h]
/-! a list of whole numbers asked whether it holds one -/
theorem pys_rows : ∀ l : List Nat, D.pys (l.map nD) = some (l.map fun n : Nat => PyData.int (n : Int))
  | [] => rfl
  | a :: l => by
    simp only [List.map_cons, D.pys, pys_rows l]
    rfl
theorem rows_shaped (l : List Nat) : SeqAt.shaped (.list (l.map fun n : Nat => PyData.int (n : Int))) = true := by
  obtain ⟨ps, q1, q2, q3, q4⟩ := scal_py (xs := l.map nD) (by rw [List.all_map, List.all_eq_true]; exact fun _ _ => rfl)
  rw [pys_rows] at q1
  cases q1
  exact Bool.and_eq_true_iff.mpr ⟨by simpa [PyData.canLay0] using q3, decide_eq_true (by simp [PyData.depth]; omega)⟩
theorem int_shaped (i : Int) : SeqAt.shaped (.int i) = true := rfl
theorem eqv_int (i j : Int) : PyData.eqv (.int i) (.int j) = decide (i = j) := by
  simp [PyData.eqv]
  rfl
theorem inR (p : Nat) (l : List Nat) : cmpD .In (nD p) (rowsD l) = some (decide (p ∈ l)) := by
  show inList (nD p) (l.map nD) = _
  unfold inList
  rw [pys_rows]
  show (if (SeqAt.shaped (.int (p : Int)) && SeqAt.shaped (.list (l.map fun n : Nat => PyData.int (n : Int)))) = true then some ((l.map fun n : Nat => PyData.int (n : Int)).any fun z => PyData.eqv z (.int (p : Int))) else none) = _
  rw [rows_shaped, int_shaped, Bool.and_self, if_pos rfl]
  congr 1
  rw [List.any_map]
  induction l with
  | nil => rfl
  | cons a l ih =>
    rw [List.any_cons, ih]
    show (PyData.eqv (.int (a : Int)) (.int (p : Int)) || _) = _
    rw [eqv_int]
    by_cases h : p = a
    · subst h
      simp
    · have h2 : ¬ (a : Int) = (p : Int) := by omega
      simp [h, h2]
theorem ninR (p : Nat) (l : List Nat) : cmpD .NotIn (nD p) (rowsD l) = some (!decide (p ∈ l)) := by
  show (cmpD .In (nD p) (rowsD l)).map (!·) = _
  rw [inR]
  rfl
/-! the law's own equality -/
mutual
def D.lim : D → Bool
  | .lst xs => decide (xs.length ≤ 1000000) && D.lims xs
  | .tup xs => decide (xs.length ≤ 1000000) && D.lims xs
  | .fn _ => false
  | .dct _ _ => false
  | .scr _ => false
  | _ => true
def D.lims : List D → Bool
  | [] => true
  | x :: xs => D.lim x && D.lims xs
end
mutual
def D.dep : D → Nat
  | .lst xs => D.deps xs + 1
  | .tup xs => D.deps xs + 1
  | _ => 0
def D.deps : List D → Nat
  | [] => 0
  | x :: xs => max (D.dep x) (D.deps xs)
end
theorem lims_mem : ∀ {xs : List D} {x : D}, D.lims xs = true → x ∈ xs → x.lim = true
  | y :: xs, x, h, hm => by
    obtain ⟨h1, h2⟩ := and2 (show (D.lim y && D.lims xs) = true from h)
    rcases List.mem_cons.mp hm with rfl | hm
    · exact h1
    · exact lims_mem h2 hm
theorem deps_mem : ∀ {xs : List D} {x : D}, x ∈ xs → x.dep ≤ D.deps xs
  | y :: xs, x, hm => by
    show _ ≤ max (D.dep y) (D.deps xs)
    rcases List.mem_cons.mp hm with rfl | hm
    · omega
    · have := deps_mem hm
      omega
theorem leq_any {G : Cfg} {q a : Nat} {nm nm2 : Str} {N N2 : List Str} {bq : SS} (hb : bq = bEq1 a ∨ bq = bEq2 a) (hq : G.fns[q]? = some ⟨nm, 2, N, [], bq⟩) (hN : N.length = 2) (ha : G.fns[a]? = some ⟨nm2, 2, N2, [], bAll q⟩) (hN2 : N2.length = 3) :
    ∀ (n : Nat) (d : D) (k : Nat), d.lim = true → d.dep ≤ n → 2 * n + 1 ≤ k → (fnEval G k q [.sh d, .sh d]).res = .ok (.bl true) false := by
  have flat : ∀ (d : D) (k : Nat), d.lim = true → d.dep = 0 → 1 ≤ k → (fnEval G k q [.sh d, .sh d]).res = .ok (.bl true) false := by
    intro d k h1 h2 hk
    obtain ⟨k, rfl⟩ : ∃ j, k = j + 1 := ⟨k - 1, by omega⟩
    rw [fn_at k [.sh d, .sh d] [.sh d, .sh d] hq rfl (by rw [hN]; rfl)]
    rcases hb with hb | hb <;> subst hb <;> cases d <;> first
      | (simp [D.dep] at h2; done)
      | (cases h1; done)
      | (simp [bEq1, bEq2, D.isNon, exR, evR, ofX, ofF, noR, R.out, R.bind, R.of, with1, with2, withs, Bor.res, Bor.frz, ress, frzs, bl2, dat, Sl.get?, Sl.frz, mkSl, D.mutb, D.flat, D.isNon, truD, binD, unD, augD, cmpD, eqD, scalD, ixD, isiD, Out.res, Res.put, mkArgs, lineOk, sizeLine_eq, ioAt]; done)
  intro n
  induction n with
  | zero => intro d k h1 h2 hk; exact flat d k h1 (by omega) (by omega)
  | succ n ih =>
    intro d k h1 h2 hk
    obtain ⟨k, rfl⟩ : ∃ j, k = j + 2 := ⟨k - 2, by omega⟩
    cases d with
    | lst xs =>
      obtain ⟨g1, g2⟩ := and2 (show (decide (xs.length ≤ 1000000) && D.lims xs) = true from h1)
      have h2 : D.deps xs + 1 ≤ n + 1 := h2
      exact leq_seq hb hq hN ha hN2 k _ xs (.inl rfl) (of_decide_eq_true g1) fun x hx => ih x k (lims_mem g2 hx) (by have := deps_mem hx; omega) (by omega)
    | tup xs =>
      obtain ⟨g1, g2⟩ := and2 (show (decide (xs.length ≤ 1000000) && D.lims xs) = true from h1)
      have h2 : D.deps xs + 1 ≤ n + 1 := h2
      exact leq_seq hb hq hN ha hN2 k _ xs (.inr rfl) (of_decide_eq_true g1) fun x hx => ih x k (lims_mem g2 hx) (by have := deps_mem hx; omega) (by omega)
    | _ => exact flat _ _ h1 rfl (by omega)
theorem lims_rows : ∀ l : List Nat, D.lims (l.map nD) = true
  | [] => rfl
  | a :: l => lims_rows l
theorem deps_rows : ∀ l : List Nat, D.deps (l.map nD) = 0
  | [] => rfl
  | a :: l => by
    show max 0 (D.deps (l.map nD)) = 0
    rw [deps_rows l]
    rfl
theorem lim_rows {l : List Nat} (h : l.length ≤ 1000000) : (rowsD l).lim = true := Bool.and_eq_true_iff.mpr ⟨decide_eq_true (by simpa using h), lims_rows l⟩
theorem dep_rows (l : List Nat) : (rowsD l).dep = 1 := by
  show D.deps (l.map nD) + 1 = 1
  rw [deps_rows]
end EV
/-! More of the laws' own helpers: the drawing below a bound, ones, the greatest common divisor. -/
namespace EV
open PySem
def fDraw2 (m : Nat) : Fn := ⟨"_law_draw", 2, ["draws", "many", "at", "first"], [true, false], (.seq (.asg 2 (.ix (.var 0) (.lit (.int 1)))) (.seq (.asgI 0 (.lit (.int 1)) (.bin .Add (.var 2) (.lit (.int 1)))) (.seq (.cond (.cmp .Lt (.var 2) (.bi .len (.cons (.ix (.var 0) (.lit (.int 0))) .nil))) (.seq (.ret (.bin .Mod (.ix (.ix (.var 0) (.lit (.int 0))) (.var 2)) (.var 1))) .skip) .skip) (.seq (.asg 3 (.bin .Add (.lit (.int 1)) (.var 2))) (.seq (.cond (.cmp .Gt (.bi .len (.cons (.ix (.var 0) (.lit (.int 0))) .nil)) (.lit (.int 0))) (.seq (.asg 3 (.bin .Add (.var 3) (.bin .Mult (.lit (.int 1009)) (.ix (.ix (.var 0) (.lit (.int 0))) (.lit (.int 0)))))) .skip) .skip) (.seq (.ret (.bin .Mod (.bin .FloorDiv (.call m (.cons (.call m (.cons (.var 3) (.cons (.var 2) .nil))) (.cons (.lit (.int 5)) .nil))) (.lit (.int 7))) (.var 1))) .skip))))))⟩
section
variable {G : Cfg} {m : Nat}
theorem goM' (hm : G.fns[m]? = some fMixed) (call : Nat → List Sl → FR) (b0 b1 : Bor) (e : Ev) : goCall G call m [b0, b1] e = (match mkArgs e [] [b0, b1] with | none => .st | some z => (call m z.1).res.put e z.2) := go_pure call [b0, b1] e hm rfl rfl
theorem ixDr0 (l : List Nat) (a : Nat) : ixD (drD l a) (nD 0) = some (rowsD l) := at0 _ _
theorem ixDr1 (l : List Nat) (a : Nat) : ixD (drD l a) (nD 1) = some (nD a) := at1 _ _ _
theorem setDr (l : List Nat) (a b : Nat) : setD (drD l a) (nD 1) (nD b) = some (drD l b) := by
  simp [drD, nD, setD, L2.ixN]
theorem draw2_ok {f : Nat} (hm : G.fns[m]? = some fMixed) (hf : G.fns[f]? = some (fDraw2 m)) (k : Nat) (l : List Nat) (at_ q : Nat) (hs : small l) (hl : l.length ≤ 4000) (ha : at_ < 1000000) (hq : 0 < q) (h : 2 ≤ k) : ∃ (v : Nat) (e : Ev), v < q ∧ fnEval G k f [.ow (drD l at_), .sh (nD q)] = .ok (nD v) false e ∧ e.getD 0 .no = .ow (drD l (at_ + 1)) := by
  obtain ⟨k, rfl⟩ : ∃ j, k = j + 1 := ⟨k - 1, by omega⟩
  rw [fn_step (fi := fDraw2 m) k _ hf rfl]
  show ∃ (v : Nat) (e : Ev), v < q ∧ ((exR G (fnEval G k) [true, false] (fDraw2 m).body).x [.ow (drD l at_), .sh (nD q), .no, .no]).fr = .ok (nD v) false e ∧ e.getD 0 .no = .ow (drD l (at_ + 1))
  have s1 : (exR G (fnEval G k) [true, false] (.asg 2 (.ix (.var 0) (.lit (.int 1))))).x [.ow (drD l at_), .sh (nD q), .no, .no] = .nx [.ow (drD l at_), .sh (nD q), .sh (nD at_), .no] := by
    simp [ixDr1, exR, evR, lineOk, sizeLine_eq, ofX, ofF, noR, R.out, R.bind, R.of, with1, with2, withs, Bor.res, Bor.frz, ress, frzs, bl2, dat, Sl.get?, Sl.frz, mkSl, Out.res, Res.put, mkArgs, ioAt, doCall, putIos, nd0, nd1, ndl, ndc, nAdd, nSub, nMul, nDiv, nMod, nShl, nShr, nAnd, nXor, nPow, sAdd, lAdd, rAdd, tAdd, lMul, sMul, cEqN, cEqS, cEqB, cNeN, cNeS, cNeB, cLt, cLe, cGt, cGe, cIs, cIsN, isNonN, isNonS, isNonL, isNonR, isNonT, isNonB, isNon0, inS, ninS, tN, tB, tL, tT, tR, t0, bLenL, bLenT, bLenR, bLenS, bIntN, bMin, bMax, bSum, bLstL, bLstT, bTupL, bTupT, ixL, ixT, ixR, ixS, isiN, isiR, flatN, flatR, mutN, mutR, itR, itL, itT, itS, cNilR, cNilN, cNilL, cNilM, meTyJ, inR, ninR, flat0, flatB, flatI, flatS, flatF, flatL, flatT, flatD, mut0, mutB, mutI, mutS, mutF, mutL, mutT, mutD, isi0, isiB, isiI, isiS, isiL, isiT, isiDc]
  have s2 : (exR G (fnEval G k) [true, false] (.asgI 0 (.lit (.int 1)) (.bin .Add (.var 2) (.lit (.int 1))))).x [.ow (drD l at_), .sh (nD q), .sh (nD at_), .no] = .nx [.ow (drD l (at_ + 1)), .sh (nD q), .sh (nD at_), .no] := by
    simp [setDr, exR, evR, lineOk, sizeLine_eq, ofX, ofF, noR, R.out, R.bind, R.of, with1, with2, withs, Bor.res, Bor.frz, ress, frzs, bl2, dat, Sl.get?, Sl.frz, mkSl, Out.res, Res.put, mkArgs, ioAt, doCall, putIos, nd0, nd1, ndl, ndc, nAdd, nSub, nMul, nDiv, nMod, nShl, nShr, nAnd, nXor, nPow, sAdd, lAdd, rAdd, tAdd, lMul, sMul, cEqN, cEqS, cEqB, cNeN, cNeS, cNeB, cLt, cLe, cGt, cGe, cIs, cIsN, isNonN, isNonS, isNonL, isNonR, isNonT, isNonB, isNon0, inS, ninS, tN, tB, tL, tT, tR, t0, bLenL, bLenT, bLenR, bLenS, bIntN, bMin, bMax, bSum, bLstL, bLstT, bTupL, bTupT, ixL, ixT, ixR, ixS, isiN, isiR, flatN, flatR, mutN, mutR, itR, itL, itT, itS, cNilR, cNilN, cNilL, cNilM, meTyJ, inR, ninR, flat0, flatB, flatI, flatS, flatF, flatL, flatT, flatD, mut0, mutB, mutI, mutS, mutF, mutL, mutT, mutD, isi0, isiB, isiI, isiS, isiL, isiT, isiDc]
  unfold fDraw2
  rw [seq_nx s1, seq_nx s2]
  by_cases hb : at_ < l.length
  · have a2 := ixR hb
    rw [seq_rt ((cond_tt (e1 := [.ow (drD l (at_ + 1)), .sh (nD q), .sh (nD at_), .no]) (by simp [ixDr0, hb, exR, evR, lineOk, sizeLine_eq, ofX, ofF, noR, R.out, R.bind, R.of, with1, with2, withs, Bor.res, Bor.frz, ress, frzs, bl2, dat, Sl.get?, Sl.frz, mkSl, Out.res, Res.put, mkArgs, ioAt, doCall, putIos, nd0, nd1, ndl, ndc, nAdd, nSub, nMul, nDiv, nMod, nShl, nShr, nAnd, nXor, nPow, sAdd, lAdd, rAdd, tAdd, lMul, sMul, cEqN, cEqS, cEqB, cNeN, cNeS, cNeB, cLt, cLe, cGt, cGe, cIs, cIsN, isNonN, isNonS, isNonL, isNonR, isNonT, isNonB, isNon0, inS, ninS, tN, tB, tL, tT, tR, t0, bLenL, bLenT, bLenR, bLenS, bIntN, bMin, bMax, bSum, bLstL, bLstT, bTupL, bTupT, ixL, ixT, ixR, ixS, isiN, isiR, flatN, flatR, mutN, mutR, itR, itL, itT, itS, cNilR, cNilN, cNilL, cNilM, meTyJ, inR, ninR, flat0, flatB, flatI, flatS, flatF, flatL, flatT, flatD, mut0, mutB, mutI, mutS, mutF, mutL, mutT, mutD, isi0, isiB, isiI, isiS, isiL, isiT, isiDc])).trans (seq_rt (ret_f (x := (nD (l.getD at_ 0 % q), false)) (e1 := [.ow (drD l (at_ + 1)), .sh (nD q), .sh (nD at_), .no]) (by intro i h; cases h) (by
      have md := nMod (a := l.getD at_ 0) hq
      generalize l.getD at_ 0 = c at a2 md ⊢
      simp [ixDr0, a2, md, exR, evR, lineOk, sizeLine_eq, ofX, ofF, noR, R.out, R.bind, R.of, with1, with2, withs, Bor.res, Bor.frz, ress, frzs, bl2, dat, Sl.get?, Sl.frz, mkSl, Out.res, Res.put, mkArgs, ioAt, doCall, putIos, nd0, nd1, ndl, ndc, nAdd, nSub, nMul, nDiv, nMod, nShl, nShr, nAnd, nXor, nPow, sAdd, lAdd, rAdd, tAdd, lMul, sMul, cEqN, cEqS, cEqB, cNeN, cNeS, cNeB, cLt, cLe, cGt, cGe, cIs, cIsN, isNonN, isNonS, isNonL, isNonR, isNonT, isNonB, isNon0, inS, ninS, tN, tB, tL, tT, tR, t0, bLenL, bLenT, bLenR, bLenS, bIntN, bMin, bMax, bSum, bLstL, bLstT, bTupL, bTupT, ixL, ixT, ixR, ixS, isiN, isiR, flatN, flatR, mutN, mutR, itR, itL, itT, itS, cNilR, cNilN, cNilL, cNilM, meTyJ, inR, ninR, flat0, flatB, flatI, flatS, flatF, flatL, flatT, flatD, mut0, mutB, mutI, mutS, mutF, mutL, mutT, mutD, isi0, isiB, isiI, isiS, isiL, isiT, isiDc]))))]
    exact ⟨_, _, Nat.mod_lt _ hq, rfl, rfl⟩
  · have s3 := seq_nx (r := (.seq (.asg 3 (.bin .Add (.lit (.int 1)) (.var 2))) (.seq (.cond (.cmp .Gt (.bi .len (.cons (.ix (.var 0) (.lit (.int 0))) .nil)) (.lit (.int 0))) (.seq (.asg 3 (.bin .Add (.var 3) (.bin .Mult (.lit (.int 1009)) (.ix (.ix (.var 0) (.lit (.int 0))) (.lit (.int 0)))))) .skip) .skip) (.seq (.ret (.bin .Mod (.bin .FloorDiv (.call m (.cons (.call m (.cons (.var 3) (.cons (.var 2) .nil))) (.cons (.lit (.int 5)) .nil))) (.lit (.int 7))) (.var 1))) .skip)))) ((cond_ff (G := G) (call := fnEval G k) (io := [true, false]) (c := .cmp .Lt (.var 2) (.bi .len (.cons (.ix (.var 0) (.lit (.int 0))) .nil))) (s := .seq (.ret (.bin .Mod (.ix (.ix (.var 0) (.lit (.int 0))) (.var 2)) (.var 1))) .skip) (r := .skip) (e := [.ow (drD l (at_ + 1)), .sh (nD q), .sh (nD at_), .no]) (e1 := [.ow (drD l (at_ + 1)), .sh (nD q), .sh (nD at_), .no]) (by simp [ixDr0, hb, exR, evR, lineOk, sizeLine_eq, ofX, ofF, noR, R.out, R.bind, R.of, with1, with2, withs, Bor.res, Bor.frz, ress, frzs, bl2, dat, Sl.get?, Sl.frz, mkSl, Out.res, Res.put, mkArgs, ioAt, doCall, putIos, nd0, nd1, ndl, ndc, nAdd, nSub, nMul, nDiv, nMod, nShl, nShr, nAnd, nXor, nPow, sAdd, lAdd, rAdd, tAdd, lMul, sMul, cEqN, cEqS, cEqB, cNeN, cNeS, cNeB, cLt, cLe, cGt, cGe, cIs, cIsN, isNonN, isNonS, isNonL, isNonR, isNonT, isNonB, isNon0, inS, ninS, tN, tB, tL, tT, tR, t0, bLenL, bLenT, bLenR, bLenS, bIntN, bMin, bMax, bSum, bLstL, bLstT, bTupL, bTupT, ixL, ixT, ixR, ixS, isiN, isiR, flatN, flatR, mutN, mutR, itR, itL, itT, itS, cNilR, cNilN, cNilL, cNilM, meTyJ, inR, ninR, flat0, flatB, flatI, flatS, flatF, flatL, flatT, flatD, mut0, mutB, mutI, mutS, mutF, mutL, mutT, mutD, isi0, isiB, isiI, isiS, isiL, isiT, isiDc])).trans skip_nx)
    rw [s3]
    have s4 : (exR G (fnEval G k) [true, false] (.asg 3 (.bin .Add (.lit (.int 1)) (.var 2)))).x [.ow (drD l (at_ + 1)), .sh (nD q), .sh (nD at_), .no] = .nx [.ow (drD l (at_ + 1)), .sh (nD q), .sh (nD at_), .sh (nD (1 + at_))] := by
      simp [exR, evR, lineOk, sizeLine_eq, ofX, ofF, noR, R.out, R.bind, R.of, with1, with2, withs, Bor.res, Bor.frz, ress, frzs, bl2, dat, Sl.get?, Sl.frz, mkSl, Out.res, Res.put, mkArgs, ioAt, doCall, putIos, nd0, nd1, ndl, ndc, nAdd, nSub, nMul, nDiv, nMod, nShl, nShr, nAnd, nXor, nPow, sAdd, lAdd, rAdd, tAdd, lMul, sMul, cEqN, cEqS, cEqB, cNeN, cNeS, cNeB, cLt, cLe, cGt, cGe, cIs, cIsN, isNonN, isNonS, isNonL, isNonR, isNonT, isNonB, isNon0, inS, ninS, tN, tB, tL, tT, tR, t0, bLenL, bLenT, bLenR, bLenS, bIntN, bMin, bMax, bSum, bLstL, bLstT, bTupL, bTupT, ixL, ixT, ixR, ixS, isiN, isiR, flatN, flatR, mutN, mutR, itR, itL, itT, itS, cNilR, cNilN, cNilL, cNilM, meTyJ, inR, ninR, flat0, flatB, flatI, flatS, flatF, flatL, flatT, flatD, mut0, mutB, mutI, mutS, mutF, mutL, mutT, mutD, isi0, isiB, isiI, isiS, isiL, isiT, isiDc]
    rw [seq_nx s4]
    have s5 : ∃ f : Nat, (exR G (fnEval G k) [true, false] (.cond (.cmp .Gt (.bi .len (.cons (.ix (.var 0) (.lit (.int 0))) .nil)) (.lit (.int 0))) (.seq (.asg 3 (.bin .Add (.var 3) (.bin .Mult (.lit (.int 1009)) (.ix (.ix (.var 0) (.lit (.int 0))) (.lit (.int 0)))))) .skip) .skip)).x [.ow (drD l (at_ + 1)), .sh (nD q), .sh (nD at_), .sh (nD (1 + at_))] = .nx [.ow (drD l (at_ + 1)), .sh (nD q), .sh (nD at_), .sh (nD f)] := by
      by_cases hz : 0 < l.length
      · have a2 := ixR hz
        refine ⟨1 + at_ + 1009 * l.getD 0 0, ?_⟩
        generalize l.getD 0 0 = c at a2 ⊢
        have mu := nMul (a := 1009) (b := c) (.inl (by decide))
        rw [cond_tt (e1 := [.ow (drD l (at_ + 1)), .sh (nD q), .sh (nD at_), .sh (nD (1 + at_))]) (by simp [ixDr0, hz, exR, evR, lineOk, sizeLine_eq, ofX, ofF, noR, R.out, R.bind, R.of, with1, with2, withs, Bor.res, Bor.frz, ress, frzs, bl2, dat, Sl.get?, Sl.frz, mkSl, Out.res, Res.put, mkArgs, ioAt, doCall, putIos, nd0, nd1, ndl, ndc, nAdd, nSub, nMul, nDiv, nMod, nShl, nShr, nAnd, nXor, nPow, sAdd, lAdd, rAdd, tAdd, lMul, sMul, cEqN, cEqS, cEqB, cNeN, cNeS, cNeB, cLt, cLe, cGt, cGe, cIs, cIsN, isNonN, isNonS, isNonL, isNonR, isNonT, isNonB, isNon0, inS, ninS, tN, tB, tL, tT, tR, t0, bLenL, bLenT, bLenR, bLenS, bIntN, bMin, bMax, bSum, bLstL, bLstT, bTupL, bTupT, ixL, ixT, ixR, ixS, isiN, isiR, flatN, flatR, mutN, mutR, itR, itL, itT, itS, cNilR, cNilN, cNilL, cNilM, meTyJ, inR, ninR, flat0, flatB, flatI, flatS, flatF, flatL, flatT, flatD, mut0, mutB, mutI, mutS, mutF, mutL, mutT, mutD, isi0, isiB, isiI, isiS, isiL, isiT, isiDc])]
        rw [seq_nx (asg_nx (x := (nD (1 + at_ + 1009 * c), false)) (e1 := [.ow (drD l (at_ + 1)), .sh (nD q), .sh (nD at_), .sh (nD (1 + at_))]) (by simp [ixDr0, a2, mu, exR, evR, lineOk, sizeLine_eq, ofX, ofF, noR, R.out, R.bind, R.of, with1, with2, withs, Bor.res, Bor.frz, ress, frzs, bl2, dat, Sl.get?, Sl.frz, mkSl, Out.res, Res.put, mkArgs, ioAt, doCall, putIos, nd0, nd1, ndl, ndc, nAdd, nSub, nMul, nDiv, nMod, nShl, nShr, nAnd, nXor, nPow, sAdd, lAdd, rAdd, tAdd, lMul, sMul, cEqN, cEqS, cEqB, cNeN, cNeS, cNeB, cLt, cLe, cGt, cGe, cIs, cIsN, isNonN, isNonS, isNonL, isNonR, isNonT, isNonB, isNon0, inS, ninS, tN, tB, tL, tT, tR, t0, bLenL, bLenT, bLenR, bLenS, bIntN, bMin, bMax, bSum, bLstL, bLstT, bTupL, bTupT, ixL, ixT, ixR, ixS, isiN, isiR, flatN, flatR, mutN, mutR, itR, itL, itT, itS, cNilR, cNilN, cNilL, cNilM, meTyJ, inR, ninR, flat0, flatB, flatI, flatS, flatF, flatL, flatT, flatD, mut0, mutB, mutI, mutS, mutF, mutL, mutT, mutD, isi0, isiB, isiI, isiS, isiL, isiT, isiDc]) rfl)]
        rfl
      · refine ⟨1 + at_, ?_⟩
        rw [cond_ff (e1 := [.ow (drD l (at_ + 1)), .sh (nD q), .sh (nD at_), .sh (nD (1 + at_))]) (by simp [ixDr0, hz, exR, evR, lineOk, sizeLine_eq, ofX, ofF, noR, R.out, R.bind, R.of, with1, with2, withs, Bor.res, Bor.frz, ress, frzs, bl2, dat, Sl.get?, Sl.frz, mkSl, Out.res, Res.put, mkArgs, ioAt, doCall, putIos, nd0, nd1, ndl, ndc, nAdd, nSub, nMul, nDiv, nMod, nShl, nShr, nAnd, nXor, nPow, sAdd, lAdd, rAdd, tAdd, lMul, sMul, cEqN, cEqS, cEqB, cNeN, cNeS, cNeB, cLt, cLe, cGt, cGe, cIs, cIsN, isNonN, isNonS, isNonL, isNonR, isNonT, isNonB, isNon0, inS, ninS, tN, tB, tL, tT, tR, t0, bLenL, bLenT, bLenR, bLenS, bIntN, bMin, bMax, bSum, bLstL, bLstT, bTupL, bTupT, ixL, ixT, ixR, ixS, isiN, isiR, flatN, flatR, mutN, mutR, itR, itL, itT, itS, cNilR, cNilN, cNilL, cNilM, meTyJ, inR, ninR, flat0, flatB, flatI, flatS, flatF, flatL, flatT, flatD, mut0, mutB, mutI, mutS, mutF, mutL, mutT, mutD, isi0, isiB, isiI, isiS, isiL, isiT, isiDc])]
        rfl
    obtain ⟨f, s5⟩ := s5
    rw [seq_nx s5]
    obtain ⟨v1, _, w1⟩ := mixed_ok hm k f at_ (by omega)
    obtain ⟨v2, _, w2⟩ := mixed_ok hm k v1 5 (by omega)
    refine ⟨v2 / 7 % q, [.ow (drD l (at_ + 1)), .sh (nD q), .sh (nD at_), .sh (nD f)], Nat.mod_lt _ hq, ?_, rfl⟩
    have md := nMod (a := v2 / 7) hq
    have w1 : (fnEval G k m [.sh (nD f), .sh (nD at_)]).res = .ok (nD v1) false := w1
    have w2 : (fnEval G k m [.sh (nD v1), .sh (nD 5)]).res = .ok (nD v2) false := w2
    rw [seq_rt (ret_f (x := (nD (v2 / 7 % q), false)) (e1 := [.ow (drD l (at_ + 1)), .sh (nD q), .sh (nD at_), .sh (nD f)]) (by intro i h; cases h) (by simp [goM' hm, w1, w2, md, exR, evR, lineOk, sizeLine_eq, ofX, ofF, noR, R.out, R.bind, R.of, with1, with2, withs, Bor.res, Bor.frz, ress, frzs, bl2, dat, Sl.get?, Sl.frz, mkSl, Out.res, Res.put, mkArgs, ioAt, doCall, putIos, nd0, nd1, ndl, ndc, nAdd, nSub, nMul, nDiv, nMod, nShl, nShr, nAnd, nXor, nPow, sAdd, lAdd, rAdd, tAdd, lMul, sMul, cEqN, cEqS, cEqB, cNeN, cNeS, cNeB, cLt, cLe, cGt, cGe, cIs, cIsN, isNonN, isNonS, isNonL, isNonR, isNonT, isNonB, isNon0, inS, ninS, tN, tB, tL, tT, tR, t0, bLenL, bLenT, bLenR, bLenS, bIntN, bMin, bMax, bSum, bLstL, bLstT, bTupL, bTupT, ixL, ixT, ixR, ixS, isiN, isiR, flatN, flatR, mutN, mutR, itR, itL, itT, itS, cNilR, cNilN, cNilL, cNilM, meTyJ, inR, ninR, flat0, flatB, flatI, flatS, flatF, flatL, flatT, flatD, mut0, mutB, mutI, mutS, mutF, mutL, mutT, mutD, isi0, isiB, isiI, isiS, isiL, isiT, isiDc]))]
    rfl
/-- drawing below q, as an expression; the bound may draw itself -/
theorem draw2_any {f : Nat} (hm : G.fns[m]? = some fMixed) (hf : G.fns[f]? = some (fDraw2 m)) (k : Nat) (i : Nat) (l : List Nat) (at_ q : Nat) (hs : small l) (hl : l.length ≤ 4000) (ha : at_ < 1000000) (hq : 0 < q) (h : 2 ≤ k) (a : SE) (e e' : Ev) (d0 : D) (h0 : e.getD i .no = .ow d0) (ha2 : (evR G (fnEval G k) a).b e = .ok (.dat (nD q)) e') (hi : e'.getD i .no = .ow (drD l at_)) :
    ∃ v : Nat, v < q ∧ (evR G (fnEval G k) (.call f (.cons (.var i) (.cons a .nil)))).f e = .ok (nD v, false) (e'.set i (.ow (drD l (at_ + 1)))) := by
  obtain ⟨v, e2, hv, h1, h2⟩ := draw2_ok hm hf k l at_ q hs hl ha hq h
  refine ⟨v, hv, ?_⟩
  have hb : (evR G (fnEval G k) (.cons (.var i) (.cons a .nil))).bs e = .ok [.slot i, .dat (nD q)] e' := cons_bs (by
    show (match e.getD i .no with
      | .no => R.st
      | .sh d => R.ok (Bor.dat d) e
      | .ow _ => R.ok (Bor.slot i) e) = _
    rw [h0]) (cons_bs ha2 nil_bs)
  rw [call_f hb]
  show (match G.fns[f]? with
    | some fi => if fi.np = [Bor.slot i, Bor.dat (nD q)].length then doCall (fnEval G k) fi.io f [.slot i, .dat (nD q)] e' else .st
    | none => .st) = _
  rw [hf]
  show doCall (fnEval G k) [true, false] f [.slot i, .dat (nD q)] e' = _
  have hm : mkArgs e' [true, false] [.slot i, .dat (nD q)] = some ([.ow (drD l at_), .sh (nD q)], e'.set i .no) := by
    simp only [mkArgs, hi, Bor.res, Bor.frz, Option.map_some]
  unfold doCall
  rw [hm]
  simp only [h1]
  show (if (nD v).flat && !([true, false].any id) then _ else _) = _
  rw [if_neg (by simp)]
  show R.ok (nD v, false) ((e'.set i .no).set i (e2.getD 0 .no)) = _
  rw [h2, List.set_set]
theorem draw2_call {f : Nat} (hm : G.fns[m]? = some fMixed) (hf : G.fns[f]? = some (fDraw2 m)) (k : Nat) (i : Nat) (l : List Nat) (at_ q : Nat) (hs : small l) (hl : l.length ≤ 4000) (ha : at_ < 1000000) (hq : 0 < q) (h : 2 ≤ k) (a : SE) (e : Ev) (ha2 : (evR G (fnEval G k) a).b e = .ok (.dat (nD q)) e) (hi : e.getD i .no = .ow (drD l at_)) :
    ∃ v : Nat, v < q ∧ (evR G (fnEval G k) (.call f (.cons (.var i) (.cons a .nil)))).f e = .ok (nD v, false) (e.set i (.ow (drD l (at_ + 1)))) := draw2_any hm hf k i l at_ q hs hl ha hq h a e e _ hi ha2 hi
/-! ones -/
def pcN (n : Nat) : Nat := if h : n = 0 then 0 else n % 2 + pcN (n / 2)
termination_by n
theorem pcN_0 : pcN 0 = 0 := by rw [pcN]; rfl
theorem pcN_step (n : Nat) : pcN n = n % 2 + pcN (n / 2) := by
  by_cases h : n = 0
  · subst h
    simp [pcN_0]
  · rw [pcN, dif_neg h]
def bOnesA : SS := (.seq (.asg 1 (.lit (.int 0))) (.seq (.whil (.cmp .Gt (.var 0) (.lit (.int 0))) (.seq (.aug 1 .Add (.bin .BitAnd (.var 0) (.lit (.int 1)))) (.seq (.asg 0 (.bin .RShift (.var 0) (.lit (.int 1)))) .skip))) (.seq (.ret (.var 1)) .skip)))
def bOnesB : SS := (.seq (.asg 1 (.lit (.int 0))) (.seq (.whil (.cmp .Gt (.var 0) (.lit (.int 0))) (.seq (.asg 1 (.bin .Add (.var 1) (.bin .Mod (.var 0) (.lit (.int 2))))) (.seq (.asg 0 (.bin .FloorDiv (.var 0) (.lit (.int 2)))) .skip))) (.seq (.ret (.var 1)) .skip)))
theorem and1 (p : Nat) : p &&& 1 = p % 2 := Nat.and_one_is_mod p
theorem ones_loop {test : Ev → R Bool} {body : Ev → Out} {F p : Nat} (hF : p < F) (ht : ∀ p q : Nat, test [.sh (nD p), .sh (nD q)] = .ok (decide (0 < p)) [.sh (nD p), .sh (nD q)]) (hb : ∀ p q : Nat, body [.sh (nD p), .sh (nD q)] = .nx [.sh (nD (p / 2)), .sh (nD (q + p % 2))]) : whileL test body F [.sh (nD p), .sh (nD 0)] = .nx [.sh (nD 0), .sh (nD (pcN p))] := by
  obtain ⟨b, e', i, h1, h2, h3, h4, _⟩ := while_thru (fun (a : Nat × Nat) e => e = [.sh (nD a.1), .sh (nD a.2)]) (fun a => decide (0 < a.1)) (fun a => (a.1 / 2, a.2 + a.1 % 2)) (fun a => a.1) (fun a => a.2 + pcN a.1 = pcN p) (fun a e _ he => by subst he; exact ht _ _) (fun a e hP hc he => by
    subst he
    have hc : 0 < a.1 := of_decide_eq_true hc
    refine ⟨_, hb _ _, rfl, ?_, ?_⟩
    · have := pcN_step a.1
      show a.2 + a.1 % 2 + pcN (a.1 / 2) = pcN p
      omega
    · show a.1 / 2 < a.1
      omega) F (p, 0) [.sh (nD p), .sh (nD 0)] (by simp) rfl hF
  have hz : b.1 = 0 := by simpa using h3
  rw [h1, h2, hz]
  rw [hz, pcN_0, Nat.add_zero] at h4
  rw [h4]
theorem ones_ok {f : Nat} {nm : Str} {N : List Str} {b : SS} (hb : b = bOnesA ∨ b = bOnesB) (hf : G.fns[f]? = some ⟨nm, 1, N, [], b⟩) (hN : N.length = 2) (k p : Nat) (hp : p < G.fuel) (h : 1 ≤ k) : (fnEval G k f [.sh (nD p)]).res = .ok (nD (pcN p)) false := by
  obtain ⟨k, rfl⟩ : ∃ j, k = j + 1 := ⟨k - 1, by omega⟩
  rw [fn_at k [.sh (nD p)] [.sh (nD p), .no] hf rfl (by rw [hN]; rfl)]
  rcases hb with rfl | rfl
  · unfold bOnesA
    refine go_asg (Is _) (x := (nD 0, false)) (e1 := [.sh (nD p), .no]) rfl rfl ?_
    show Is _ ((exR G (fnEval G k) [] _).x [.sh (nD p), .sh (nD 0)])
    refine go_nx (Is _) (whil_nx (ones_loop hp (fun p q => ?_) (fun p q => ?_))) ?_
    · simp [exR, evR, lineOk, sizeLine_eq, ofX, ofF, noR, R.out, R.bind, R.of, with1, with2, withs, Bor.res, Bor.frz, ress, frzs, bl2, dat, Sl.get?, Sl.frz, mkSl, Out.res, Res.put, mkArgs, ioAt, doCall, putIos, nd0, nd1, ndl, ndc, nAdd, nSub, nMul, nDiv, nMod, nShl, nShr, nAnd, nXor, nPow, sAdd, lAdd, rAdd, tAdd, lMul, sMul, cEqN, cEqS, cEqB, cNeN, cNeS, cNeB, cLt, cLe, cGt, cGe, cIs, cIsN, isNonN, isNonS, isNonL, isNonR, isNonT, isNonB, isNon0, inS, ninS, tN, tB, tL, tT, tR, t0, bLenL, bLenT, bLenR, bLenS, bIntN, bMin, bMax, bSum, bLstL, bLstT, bTupL, bTupT, ixL, ixT, ixR, ixS, isiN, isiR, flatN, flatR, mutN, mutR, itR, itL, itT, itS, cNilR, cNilN, cNilL, cNilM, meTyJ, inR, ninR, flat0, flatB, flatI, flatS, flatF, flatL, flatT, flatD, mut0, mutB, mutI, mutS, mutF, mutL, mutT, mutD, isi0, isiB, isiI, isiS, isiL, isiT, isiDc]
    · rw [seq_nx (aug_nx (d := nD q) (x := (nD (p % 2), false)) (z := nD (q + p % 2)) (e1 := [.sh (nD p), .sh (nD q)]) rfl rfl (by simp [and1, exR, evR, lineOk, sizeLine_eq, ofX, ofF, noR, R.out, R.bind, R.of, with1, with2, withs, Bor.res, Bor.frz, ress, frzs, bl2, dat, Sl.get?, Sl.frz, mkSl, Out.res, Res.put, mkArgs, ioAt, doCall, putIos, nd0, nd1, ndl, ndc, nAdd, nSub, nMul, nDiv, nMod, nShl, nShr, nAnd, nXor, nPow, sAdd, lAdd, rAdd, tAdd, lMul, sMul, cEqN, cEqS, cEqB, cNeN, cNeS, cNeB, cLt, cLe, cGt, cGe, cIs, cIsN, isNonN, isNonS, isNonL, isNonR, isNonT, isNonB, isNon0, inS, ninS, tN, tB, tL, tT, tR, t0, bLenL, bLenT, bLenR, bLenS, bIntN, bMin, bMax, bSum, bLstL, bLstT, bTupL, bTupT, ixL, ixT, ixR, ixS, isiN, isiR, flatN, flatR, mutN, mutR, itR, itL, itT, itS, cNilR, cNilN, cNilL, cNilM, meTyJ, inR, ninR, flat0, flatB, flatI, flatS, flatF, flatL, flatT, flatD, mut0, mutB, mutI, mutS, mutF, mutL, mutT, mutD, isi0, isiB, isiI, isiS, isiL, isiT, isiDc]) rfl)]
      show (exR G (fnEval G k) [] _).x [.sh (nD p), .sh (nD (q + p % 2))] = _
      rw [seq_nx (asg_nx (x := (nD (p / 2), false)) (e1 := [.sh (nD p), .sh (nD (q + p % 2))]) (by simp [exR, evR, lineOk, sizeLine_eq, ofX, ofF, noR, R.out, R.bind, R.of, with1, with2, withs, Bor.res, Bor.frz, ress, frzs, bl2, dat, Sl.get?, Sl.frz, mkSl, Out.res, Res.put, mkArgs, ioAt, doCall, putIos, nd0, nd1, ndl, ndc, nAdd, nSub, nMul, nDiv, nMod, nShl, nShr, nAnd, nXor, nPow, sAdd, lAdd, rAdd, tAdd, lMul, sMul, cEqN, cEqS, cEqB, cNeN, cNeS, cNeB, cLt, cLe, cGt, cGe, cIs, cIsN, isNonN, isNonS, isNonL, isNonR, isNonT, isNonB, isNon0, inS, ninS, tN, tB, tL, tT, tR, t0, bLenL, bLenT, bLenR, bLenS, bIntN, bMin, bMax, bSum, bLstL, bLstT, bTupL, bTupT, ixL, ixT, ixR, ixS, isiN, isiR, flatN, flatR, mutN, mutR, itR, itL, itT, itS, cNilR, cNilN, cNilL, cNilM, meTyJ, inR, ninR, flat0, flatB, flatI, flatS, flatF, flatL, flatT, flatD, mut0, mutB, mutI, mutS, mutF, mutL, mutT, mutD, isi0, isiB, isiI, isiS, isiL, isiT, isiDc]) rfl)]
      rfl
    · rw [seq_rt (ret_sh (d := nD (pcN p)) rfl rfl)]
      rfl
  · unfold bOnesB
    refine go_asg (Is _) (x := (nD 0, false)) (e1 := [.sh (nD p), .no]) rfl rfl ?_
    show Is _ ((exR G (fnEval G k) [] _).x [.sh (nD p), .sh (nD 0)])
    refine go_nx (Is _) (whil_nx (ones_loop hp (fun p q => ?_) (fun p q => ?_))) ?_
    · simp [exR, evR, lineOk, sizeLine_eq, ofX, ofF, noR, R.out, R.bind, R.of, with1, with2, withs, Bor.res, Bor.frz, ress, frzs, bl2, dat, Sl.get?, Sl.frz, mkSl, Out.res, Res.put, mkArgs, ioAt, doCall, putIos, nd0, nd1, ndl, ndc, nAdd, nSub, nMul, nDiv, nMod, nShl, nShr, nAnd, nXor, nPow, sAdd, lAdd, rAdd, tAdd, lMul, sMul, cEqN, cEqS, cEqB, cNeN, cNeS, cNeB, cLt, cLe, cGt, cGe, cIs, cIsN, isNonN, isNonS, isNonL, isNonR, isNonT, isNonB, isNon0, inS, ninS, tN, tB, tL, tT, tR, t0, bLenL, bLenT, bLenR, bLenS, bIntN, bMin, bMax, bSum, bLstL, bLstT, bTupL, bTupT, ixL, ixT, ixR, ixS, isiN, isiR, flatN, flatR, mutN, mutR, itR, itL, itT, itS, cNilR, cNilN, cNilL, cNilM, meTyJ, inR, ninR, flat0, flatB, flatI, flatS, flatF, flatL, flatT, flatD, mut0, mutB, mutI, mutS, mutF, mutL, mutT, mutD, isi0, isiB, isiI, isiS, isiL, isiT, isiDc]
    · simp [exR, evR, lineOk, sizeLine_eq, ofX, ofF, noR, R.out, R.bind, R.of, with1, with2, withs, Bor.res, Bor.frz, ress, frzs, bl2, dat, Sl.get?, Sl.frz, mkSl, Out.res, Res.put, mkArgs, ioAt, doCall, putIos, nd0, nd1, ndl, ndc, nAdd, nSub, nMul, nDiv, nMod, nShl, nShr, nAnd, nXor, nPow, sAdd, lAdd, rAdd, tAdd, lMul, sMul, cEqN, cEqS, cEqB, cNeN, cNeS, cNeB, cLt, cLe, cGt, cGe, cIs, cIsN, isNonN, isNonS, isNonL, isNonR, isNonT, isNonB, isNon0, inS, ninS, tN, tB, tL, tT, tR, t0, bLenL, bLenT, bLenR, bLenS, bIntN, bMin, bMax, bSum, bLstL, bLstT, bTupL, bTupT, ixL, ixT, ixR, ixS, isiN, isiR, flatN, flatR, mutN, mutR, itR, itL, itT, itS, cNilR, cNilN, cNilL, cNilM, meTyJ, inR, ninR, flat0, flatB, flatI, flatS, flatF, flatL, flatT, flatD, mut0, mutB, mutI, mutS, mutF, mutL, mutT, mutD, isi0, isiB, isiI, isiS, isiL, isiT, isiDc]
    · rw [seq_rt (ret_sh (d := nD (pcN p)) rfl rfl)]
      rfl
/-! the greatest common divisor -/
def bGcd (c : CmpOp) : SS := (.seq (.whil (.cmp c (.var 1) (.lit (.int 0))) (.seq (.asgT [0, 1] (.tup (.cons (.var 1) (.cons (.bin .Mod (.var 0) (.var 1)) .nil)))) .skip)) (.seq (.ret (.var 0)) .skip))
theorem gcd_ok {f : Nat} {nm : Str} {N : List Str} {c : CmpOp} (hc : c = .NotEq ∨ c = .Gt) (hf : G.fns[f]? = some ⟨nm, 2, N, [], bGcd c⟩) (hN : N.length = 2) (k a b : Nat) (hp : b < G.fuel) (h : 1 ≤ k) : (fnEval G k f [.sh (nD a), .sh (nD b)]).res = .ok (nD (Nat.gcd a b)) false := by
  obtain ⟨k, rfl⟩ : ∃ j, k = j + 1 := ⟨k - 1, by omega⟩
  rw [fn_at k [.sh (nD a), .sh (nD b)] [.sh (nD a), .sh (nD b)] hf rfl (by rw [hN]; rfl)]
  obtain ⟨z, e', i, h1, h2, h3, h4, _⟩ := while_thru (test := (evR G (fnEval G k) (.cmp c (.var 1) (.lit (.int 0)))).t) (body := (exR G (fnEval G k) [] (.seq (.asgT [0, 1] (.tup (.cons (.var 1) (.cons (.bin .Mod (.var 0) (.var 1)) .nil)))) .skip)).x)
    (fun (z : Nat × Nat) e => e = [.sh (nD z.1), .sh (nD z.2)]) (fun z => decide (0 < z.2)) (fun z => (z.2, z.1 % z.2)) (fun z => z.2) (fun z => Nat.gcd z.1 z.2 = Nat.gcd a b) (fun z e _ he => by
      subst he
      rcases hc with rfl | rfl
      · by_cases hz : z.2 = 0
        · simp [hz, exR, evR, lineOk, sizeLine_eq, ofX, ofF, noR, R.out, R.bind, R.of, with1, with2, withs, Bor.res, Bor.frz, ress, frzs, bl2, dat, Sl.get?, Sl.frz, mkSl, Out.res, Res.put, mkArgs, ioAt, doCall, putIos, nd0, nd1, ndl, ndc, nAdd, nSub, nMul, nDiv, nMod, nShl, nShr, nAnd, nXor, nPow, sAdd, lAdd, rAdd, tAdd, lMul, sMul, cEqN, cEqS, cEqB, cNeN, cNeS, cNeB, cLt, cLe, cGt, cGe, cIs, cIsN, isNonN, isNonS, isNonL, isNonR, isNonT, isNonB, isNon0, inS, ninS, tN, tB, tL, tT, tR, t0, bLenL, bLenT, bLenR, bLenS, bIntN, bMin, bMax, bSum, bLstL, bLstT, bTupL, bTupT, ixL, ixT, ixR, ixS, isiN, isiR, flatN, flatR, mutN, mutR, itR, itL, itT, itS, cNilR, cNilN, cNilL, cNilM, meTyJ, inR, ninR, flat0, flatB, flatI, flatS, flatF, flatL, flatT, flatD, mut0, mutB, mutI, mutS, mutF, mutL, mutT, mutD, isi0, isiB, isiI, isiS, isiL, isiT, isiDc]
        · simp [hz, Nat.pos_of_ne_zero hz, exR, evR, lineOk, sizeLine_eq, ofX, ofF, noR, R.out, R.bind, R.of, with1, with2, withs, Bor.res, Bor.frz, ress, frzs, bl2, dat, Sl.get?, Sl.frz, mkSl, Out.res, Res.put, mkArgs, ioAt, doCall, putIos, nd0, nd1, ndl, ndc, nAdd, nSub, nMul, nDiv, nMod, nShl, nShr, nAnd, nXor, nPow, sAdd, lAdd, rAdd, tAdd, lMul, sMul, cEqN, cEqS, cEqB, cNeN, cNeS, cNeB, cLt, cLe, cGt, cGe, cIs, cIsN, isNonN, isNonS, isNonL, isNonR, isNonT, isNonB, isNon0, inS, ninS, tN, tB, tL, tT, tR, t0, bLenL, bLenT, bLenR, bLenS, bIntN, bMin, bMax, bSum, bLstL, bLstT, bTupL, bTupT, ixL, ixT, ixR, ixS, isiN, isiR, flatN, flatR, mutN, mutR, itR, itL, itT, itS, cNilR, cNilN, cNilL, cNilM, meTyJ, inR, ninR, flat0, flatB, flatI, flatS, flatF, flatL, flatT, flatD, mut0, mutB, mutI, mutS, mutF, mutL, mutT, mutD, isi0, isiB, isiI, isiS, isiL, isiT, isiDc]
      · simp [exR, evR, lineOk, sizeLine_eq, ofX, ofF, noR, R.out, R.bind, R.of, with1, with2, withs, Bor.res, Bor.frz, ress, frzs, bl2, dat, Sl.get?, Sl.frz, mkSl, Out.res, Res.put, mkArgs, ioAt, doCall, putIos, nd0, nd1, ndl, ndc, nAdd, nSub, nMul, nDiv, nMod, nShl, nShr, nAnd, nXor, nPow, sAdd, lAdd, rAdd, tAdd, lMul, sMul, cEqN, cEqS, cEqB, cNeN, cNeS, cNeB, cLt, cLe, cGt, cGe, cIs, cIsN, isNonN, isNonS, isNonL, isNonR, isNonT, isNonB, isNon0, inS, ninS, tN, tB, tL, tT, tR, t0, bLenL, bLenT, bLenR, bLenS, bIntN, bMin, bMax, bSum, bLstL, bLstT, bTupL, bTupT, ixL, ixT, ixR, ixS, isiN, isiR, flatN, flatR, mutN, mutR, itR, itL, itT, itS, cNilR, cNilN, cNilL, cNilM, meTyJ, inR, ninR, flat0, flatB, flatI, flatS, flatF, flatL, flatT, flatD, mut0, mutB, mutI, mutS, mutF, mutL, mutT, mutD, isi0, isiB, isiI, isiS, isiL, isiT, isiDc]) (fun z e hP hc he => by
      subst he
      have hc : 0 < z.2 := of_decide_eq_true hc
      have md := nMod (a := z.1) hc
      refine ⟨_, by simp [md, tgD, setAll, exR, evR, lineOk, sizeLine_eq, ofX, ofF, noR, R.out, R.bind, R.of, with1, with2, withs, Bor.res, Bor.frz, ress, frzs, bl2, dat, Sl.get?, Sl.frz, mkSl, Out.res, Res.put, mkArgs, ioAt, doCall, putIos, nd0, nd1, ndl, ndc, nAdd, nSub, nMul, nDiv, nMod, nShl, nShr, nAnd, nXor, nPow, sAdd, lAdd, rAdd, tAdd, lMul, sMul, cEqN, cEqS, cEqB, cNeN, cNeS, cNeB, cLt, cLe, cGt, cGe, cIs, cIsN, isNonN, isNonS, isNonL, isNonR, isNonT, isNonB, isNon0, inS, ninS, tN, tB, tL, tT, tR, t0, bLenL, bLenT, bLenR, bLenS, bIntN, bMin, bMax, bSum, bLstL, bLstT, bTupL, bTupT, ixL, ixT, ixR, ixS, isiN, isiR, flatN, flatR, mutN, mutR, itR, itL, itT, itS, cNilR, cNilN, cNilL, cNilM, meTyJ, inR, ninR, flat0, flatB, flatI, flatS, flatF, flatL, flatT, flatD, mut0, mutB, mutI, mutS, mutF, mutL, mutT, mutD, isi0, isiB, isiI, isiS, isiL, isiT, isiDc], rfl, ?_, Nat.mod_lt _ hc⟩
      show Nat.gcd z.2 (z.1 % z.2) = _
      rw [← hP, Nat.gcd_comm z.1 z.2, Nat.gcd_rec z.2 z.1, Nat.gcd_comm]) G.fuel (a, b) [.sh (nD a), .sh (nD b)] rfl rfl hp
  have hz : z.2 = 0 := by simpa using h3
  rw [hz, Nat.gcd_zero_right] at h4
  subst h2
  unfold bGcd
  rw [seq_nx (whil_nx h1), seq_rt (ret_sh (d := nD z.1) rfl rfl), h4]
  rfl
end
theorem muTyR (l : List Nat) : muTy .append (rowsD l) = true := rfl
theorem muTyL (l : List D) : muTy .append (.lst l) = true := rfl
theorem muAR {l : List Nat} (x : Nat) (h : l.length < 1000000) : muD .append (rowsD l) [nD x] = some (rowsD (l ++ [x]), .non) := by
  show (if decide ((l.map nD).length < sizeLine) = true then some (D.lst (l.map nD ++ [nD x]), D.non) else none) = _
  rw [if_pos (decide_eq_true (by rw [sizeLine_eq, List.length_map]; omega))]
  unfold rowsD
  rw [List.map_append]
  rfl
theorem muAL {l : List D} (x : D) (h : l.length < 1000000) : muD .append (.lst l) [x] = some (.lst (l ++ [x]), .non) := by
  show (if decide (l.length < sizeLine) = true then some (D.lst (l ++ [x]), D.non) else none) = _
  rw [if_pos (decide_eq_true (by rw [sizeLine_eq]; omega))]
theorem rMul {n : Nat} (a : Nat) (h : n ≤ 1000000) : binD .Mult (.lst [nD a]) (nD n) = some (rowsD (List.replicate n a), true) := by
  rw [lMul (by simp; omega) h]
  congr 2
  unfold rowsD
  congr 1
  clear h
  induction n with
  | zero => rfl
  | succ n ih => rw [List.replicate_succ, List.replicate_succ, List.flatten_cons, List.map_cons, ih]; rfl
theorem ixRange {n j : Nat} {f : Nat → D} (h : j < n) : ixD (.lst ((List.range n).map f)) (nD j) = some (f j) := by
  rw [ixL (by simpa using h), List.getD_eq_getElem?_getD, List.getElem?_map, List.getElem?_range h]
  rfl
theorem rows_map {α : Type} (l : List α) (f : α → Nat) : D.lst (l.map fun a => nD (f a)) = rowsD (l.map f) := by
  unfold rowsD
  rw [List.map_map]
  rfl
theorem setR {l : List Nat} {j v : Nat} (h : j < l.length) : setD (rowsD l) (nD j) (nD v) = some (rowsD (l.set j v)) := by
  show (L2.ixN (l.map nD).length (j : Int)).map (fun j => D.lst ((l.map nD).set j (nD v))) = _
  have : L2.ixN (l.map nD).length (j : Int) = some j := by
    unfold L2.ixN
    rw [if_pos (by omega), if_pos (by rw [List.length_map]; omega)]
    rfl
  rw [this]
  show some (D.lst ((l.map nD).set j (nD v))) = some (D.lst ((l.set j v).map nD))
  rw [List.map_set]
theorem hnd_ok {G : Cfg} {call : Nat → List Sl → FR} {io : List Bool} {s r : SS} {c c' : Nat} {e e1 : Ev} (h1 : c' < G.exs.length) (h2 : isHd G c c' = true) (h : (exR G call io s).x e = .nx e1) : (exR G call io (.hnd c s r)).h c' e = .nx e1 := by
  show (if c' < G.exs.length then (if isHd G c c' = true then (match (exR G call io s).x e with
      | .er _ _ => Out.st
      | o => o) else (exR G call io r).h c' e) else .st) = _
  rw [if_pos h1, if_pos h2, h]
theorem bAbs (a : Nat) : biD .absF [nD a] = some (nD a, false) := by
  show some (D.int (if (a : Int) < 0 then -(a : Int) else (a : Int)), false) = _
  rw [if_neg (by omega)]
  rfl
end EV
namespace K19
open PySem PySem.Spec PyProof.Rows L2
def f0 : EV.Fn := ⟨"is_number", 3, ["value", "low", "high"], [], (.seq (.ret (.and (.isi (.var 0) .int) (.and (.not (.isi (.var 0) .bool)) (.cmp2 .LtE .LtE (.var 1) (.var 0) (.var 2))))) .skip)⟩
def f1 : EV.Fn := ⟨"check_number", 3, ["value", "low", "high"], [], (.seq (.cond (.not (.call 0 (.cons (.var 0) (.cons (.var 1) (.cons (.var 2) .nil))))) (.seq (.raise 1) .skip) .skip) .skip)⟩
def f2 : EV.Fn := ⟨"divisor", 2, ["a", "b"], [], (.seq (.whil (.cmp .NotEq (.var 1) (.lit (.int 0))) (.seq (.asgT [0, 1] (.tup (.cons (.var 1) (.cons (.bin .Mod (.var 0) (.var 1)) .nil)))) .skip)) (.seq (.ret (.var 0)) .skip))⟩
def f3 : EV.Fn := ⟨"fraction", 2, ["p", "q", "common"], [], (.seq (.asg 2 (.call 2 (.cons (.bi .absF (.cons (.var 0) .nil)) (.cons (.bi .absF (.cons (.var 1) .nil)) .nil)))) (.seq (.cond (.cmp .Lt (.var 1) (.lit (.int 0))) (.seq (.asgT [0, 1] (.tup (.cons (.una .USub (.var 0)) (.cons (.una .USub (.var 1)) .nil)))) .skip) .skip) (.seq (.ret (.tup (.cons (.bin .FloorDiv (.var 0) (.var 2)) (.cons (.bin .FloorDiv (.var 1) (.var 2)) .nil)))) .skip)))⟩
def f4 : EV.Fn := ⟨"bit", 2, ["p", "k"], [], (.seq (.ret (.bin .BitAnd (.bin .RShift (.var 0) (.var 1)) (.lit (.int 1)))) .skip)⟩
def f5 : EV.Fn := ⟨"ones", 1, ["p", "many"], [], (.seq (.asg 1 (.lit (.int 0))) (.seq (.whil (.cmp .Gt (.var 0) (.lit (.int 0))) (.seq (.aug 1 .Add (.bin .BitAnd (.var 0) (.lit (.int 1)))) (.seq (.asg 0 (.bin .RShift (.var 0) (.lit (.int 1)))) .skip))) (.seq (.ret (.var 1)) .skip)))⟩
def F6c0 : EV.SE := .comp (.bin .Add (.var 3) (.var 2)) (.nm 3) (.var 1) .nop [("one", 3)]
def F6b0 : EV.SS := (.seq (.asg 1 (.bin .Add (.var 1) F6c0)) .skip)
def F6l0 : EV.SS := .forS (.nm 2) (.var 0) F6b0
def f6 : EV.Fn := ⟨"sums_of", 1, ["weights", "found", "weight", "one"], [], (.seq (.asg 1 (.lst (.cons (.lit (.int 0)) .nil))) (.seq F6l0 (.seq (.ret (.var 1)) .skip)))⟩
def F7c0 : EV.SE := .comp (.var 2) (.nm 2) (.var 0) (.not (.call 0 (.cons (.var 2) (.cons (.lit (.int 0)) (.cons (.glo 0) .nil))))) [("one", 2)]
def f7 : EV.Fn := ⟨"check_votes", 2, ["weights", "bound", "one"], [], (.seq (.cond (.or (.not (.isi (.var 0) .list)) (.not (.cmp2 .LtE .LtE (.lit (.int 1)) (.bi .len (.cons (.var 0) .nil)) (.lit (.int 10))))) (.seq (.raise 1) .skip) .skip) (.seq (.cond F7c0 (.seq (.raise 1) .skip) .skip) (.seq (.expr (.call 1 (.cons (.var 1) (.cons (.lit (.int 1)) (.cons (.lit (.int 10000)) .nil))))) .skip)))⟩
def F8c0 : EV.SE := .comp (.var 5) (.nm 5) (.rng1 (.bi .len (.cons (.var 3) .nil))) (.and (.cmp .Eq (.call 4 (.cons (.var 5) (.cons (.var 2) .nil))) (.lit (.int 1))) (.cmp2 .GtE .Gt (.ix (.var 3) (.var 5)) (.var 1) (.bin .Sub (.ix (.var 3) (.var 5)) (.ix (.var 0) (.var 2))))) [("p", 5)]
def F8c1 : EV.SE := .comp (.call 5 (.cons (.var 5) .nil)) (.nm 5) (.var 4) .nop [("p", 5)]
def f8 : EV.Fn := ⟨"swing_sizes", 3, ["weights", "bound", "k", "sums", "own", "p"], [], (.seq (.asg 3 (.call 6 (.cons (.var 0) .nil))) (.seq (.asg 4 F8c0) (.seq (.ret F8c1) .skip)))⟩
def F9c0 : EV.SE := .comp (.bi .len (.cons (.call 8 (.cons (.var 0) (.cons (.var 1) (.cons (.var 2) .nil)))) .nil)) (.nm 2) (.rng1 (.bi .len (.cons (.var 0) .nil))) .nop [("k", 2)]
def f9 : EV.Fn := ⟨"swings", 2, ["weights", "bound", "k"], [], (.seq (.expr (.call 7 (.cons (.var 0) (.cons (.var 1) .nil)))) (.seq (.ret F9c0) .skip))⟩
def F10b0 : EV.SS := (.seq (.asg 1 (.bin .Mult (.var 1) (.var 2))) .skip)
def F10l0 : EV.SS := .forS (.nm 2) (.rng2 (.lit (.int 2)) (.bin .Add (.var 0) (.lit (.int 1)))) F10b0
def f10 : EV.Fn := ⟨"all_orders", 1, ["n", "found", "k"], [], (.seq (.asg 1 (.lit (.int 1))) (.seq F10l0 (.seq (.ret (.var 1)) .skip)))⟩
def F11c0 : EV.SE := .comp (.bin .Mult (.call 10 (.cons (.bin .Sub (.var 6) (.lit (.int 1))) .nil)) (.call 10 (.cons (.bin .Sub (.var 2) (.var 6)) .nil))) (.nm 6) (.var 5) .nop [("size", 6)]
def F11b0 : EV.SS := (.seq (.asg 5 (.call 8 (.cons (.var 0) (.cons (.var 1) (.cons (.var 4) .nil))))) (.seq (.expr (.mu .append 3 (.cons (.bi .sum (.cons F11c0 .nil)) .nil))) .skip))
def F11l0 : EV.SS := .forS (.nm 4) (.rng1 (.var 2)) F11b0
def f11 : EV.Fn := ⟨"decided", 2, ["weights", "bound", "n", "found", "k", "sizes", "size"], [], (.seq (.asg 2 (.bi .len (.cons (.var 0) .nil))) (.seq (.asg 3 (.lst .nil)) (.seq F11l0 (.seq (.ret (.var 3)) .skip))))⟩
def f12 : EV.Fn := ⟨"orders_decided", 2, ["weights", "bound"], [], (.seq (.expr (.call 7 (.cons (.var 0) (.cons (.var 1) .nil)))) (.seq (.ret (.call 11 (.cons (.var 0) (.cons (.var 1) .nil)))) .skip))⟩
def F13c0 : EV.SE := .comp (.call 3 (.cons (.var 2) (.cons (.call 10 (.cons (.bi .len (.cons (.var 0) .nil)) .nil)) .nil))) (.nm 2) (.call 11 (.cons (.var 0) (.cons (.var 1) .nil))) .nop [("many", 2)]
def f13 : EV.Fn := ⟨"shares", 2, ["weights", "bound", "many"], [], (.seq (.expr (.call 7 (.cons (.var 0) (.cons (.var 1) .nil)))) (.seq (.ret F13c0) .skip))⟩
def F14c0 : EV.SE := .comp (.var 2) (.nm 2) (.rng1 (.bi .len (.cons (.var 0) .nil))) (.cmp .Eq (.call 8 (.cons (.var 0) (.cons (.var 1) (.cons (.var 2) .nil)))) (.lst .nil)) [("k", 2)]
def f14 : EV.Fn := ⟨"without_say", 2, ["weights", "bound", "k"], [], (.seq (.expr (.call 7 (.cons (.var 0) (.cons (.var 1) .nil)))) (.seq (.ret F14c0) .skip))⟩
def f15 : EV.Fn := ⟨"_law_mixed", 2, ["number", "k", "step"], [], (.seq (.asg 2 (.bin .Mod (.bin .Add (.bin .Add (.bin .Mult (.var 0) (.lit (.int 48271))) (.bin .Mult (.var 1) (.lit (.int 69621)))) (.lit (.int 12345))) (.lit (.int 2147483647)))) (.seq (.ret (.bin .Mod (.bin .Add (.bin .Mult (.var 2) (.bin .Add (.bin .FloorDiv (.var 2) (.lit (.int 65536))) (.lit (.int 3)))) (.var 1)) (.lit (.int 2147483647)))) .skip))⟩
def f16 : EV.Fn := ⟨"_law_numbers", 1, ["script", "numbers", "cell", "rest", "k"], [], (.seq (.asg 1 (.lst .nil)) (.seq (.forS (.nm 2) (.var 0) (.seq (.cond (.cmp .GtE (.var 2) (.bin .Pow (.lit (.int 10)) (.lit (.int 18)))) (.seq (.asg 3 (.var 2)) (.seq (.forS (.nm 4) (.rng1 (.lit (.int 60))) (.seq (.cond (.cmp .Gt (.var 3) (.lit (.int 0))) (.seq (.expr (.mu .append 1 (.cons (.bin .Mod (.var 3) (.lit (.int 1000000))) .nil))) (.seq (.asg 3 (.bin .FloorDiv (.var 3) (.lit (.int 1000000)))) .skip)) .skip) .skip)) .skip)) (.seq (.expr (.mu .append 1 (.cons (.bin .Mod (.var 2) (.lit (.int 1000000))) .nil))) (.seq (.forS (.nm 4) (.rng1 (.lit (.int 5))) (.seq (.expr (.mu .append 1 (.cons (.bin .Mod (.call 15 (.cons (.call 15 (.cons (.bin .Mod (.var 2) (.lit (.int 2147483647))) (.cons (.var 4) .nil))) (.cons (.bin .Add (.var 4) (.lit (.int 7))) .nil))) (.lit (.int 1000000))) .nil))) .skip)) .skip))) .skip)) (.seq (.ret (.var 1)) .skip)))⟩
def f17 : EV.Fn := ⟨"_law_draw", 2, ["draws", "many", "at", "first"], [true, false], (.seq (.asg 2 (.ix (.var 0) (.lit (.int 1)))) (.seq (.asgI 0 (.lit (.int 1)) (.bin .Add (.var 2) (.lit (.int 1)))) (.seq (.cond (.cmp .Lt (.var 2) (.bi .len (.cons (.ix (.var 0) (.lit (.int 0))) .nil))) (.seq (.ret (.bin .Mod (.ix (.ix (.var 0) (.lit (.int 0))) (.var 2)) (.var 1))) .skip) .skip) (.seq (.asg 3 (.bin .Add (.lit (.int 1)) (.var 2))) (.seq (.cond (.cmp .Gt (.bi .len (.cons (.ix (.var 0) (.lit (.int 0))) .nil)) (.lit (.int 0))) (.seq (.asg 3 (.bin .Add (.var 3) (.bin .Mult (.lit (.int 1009)) (.ix (.ix (.var 0) (.lit (.int 0))) (.lit (.int 0)))))) .skip) .skip) (.seq (.ret (.bin .Mod (.bin .FloorDiv (.call 15 (.cons (.call 15 (.cons (.var 3) (.cons (.var 2) .nil))) (.cons (.lit (.int 5)) .nil))) (.lit (.int 7))) (.var 1))) .skip))))))⟩
def f18 : EV.Fn := ⟨"_law_equal", 2, ["actual", "due"], [], (.seq (.cond (.isi (.var 1) .list) (.seq (.ret (.and (.isi (.var 0) .list) (.and (.cmp .Eq (.bi .len (.cons (.var 0) .nil)) (.bi .len (.cons (.var 1) .nil))) (.call 19 (.cons (.var 0) (.cons (.var 1) .nil)))))) .skip) .skip) (.seq (.cond (.isi (.var 1) .tuple) (.seq (.ret (.and (.isi (.var 0) .tuple) (.and (.cmp .Eq (.bi .len (.cons (.var 0) .nil)) (.bi .len (.cons (.var 1) .nil))) (.call 19 (.cons (.var 0) (.cons (.var 1) .nil)))))) .skip) .skip) (.seq (.cond (.isi (.var 1) .bool) (.seq (.ret (.and (.isi (.var 0) .bool) (.cmp .Eq (.var 0) (.var 1)))) .skip) .skip) (.seq (.cond (.isi (.var 1) .int) (.seq (.ret (.and (.isi (.var 0) .int) (.and (.not (.isi (.var 0) .bool)) (.cmp .Eq (.var 0) (.var 1))))) .skip) .skip) (.seq (.cond (.isi (.var 1) .str) (.seq (.ret (.and (.isi (.var 0) .str) (.cmp .Eq (.var 0) (.var 1)))) .skip) .skip) (.seq (.ret (.cmp .Is (.var 0) (.lit .non))) .skip))))))⟩
def f19 : EV.Fn := ⟨"_law_all_equal", 2, ["actual", "due", "k"], [], (.seq (.forS (.nm 2) (.rng1 (.bi .len (.cons (.var 1) .nil))) (.seq (.cond (.not (.call 18 (.cons (.ix (.var 0) (.var 2)) (.cons (.ix (.var 1) (.var 2)) .nil)))) (.seq (.ret (.lit (.bl false))) .skip) .skip) .skip)) (.seq (.ret (.lit (.bl true))) .skip))⟩
def F20c0 : EV.SE := .comp (.bi .strF (.cons (.call 17 (.cons (.var 0) (.cons (.lit (.int 2)) .nil))) .nil)) (.nm 9) (.rng1 (.var 2)) .nop [("p", 9)]
def F20c1 : EV.SE := .comp (.call 17 (.cons (.var 0) (.cons (.var 2) .nil))) (.nm 10) (.rng1 (.call 17 (.cons (.var 0) (.cons (.lit (.int 5)) .nil)))) .nop [("k", 10)]
def F20c2 : EV.SE := .comp (.ife (.cmp .In (.var 9) (.var 6)) (.lit (.str [49])) (.lit (.str [48]))) (.nm 9) (.rng1 (.var 2)) .nop [("p", 9)]
def F20c3 : EV.SE := .comp (.bin .Sub (.call 17 (.cons (.var 0) (.cons (.lit (.int 5)) .nil))) (.lit (.int 1))) (.nm 10) (.rng1 (.var 1)) .nop [("k", 10)]
def F20c4 : EV.SE := .comp (.ix (.var 7) (.var 10)) (.nm 10) (.rng1 (.var 1)) (.cmp .Eq (.bin .BitAnd (.bin .RShift (.var 9) (.var 10)) (.lit (.int 1))) (.lit (.int 1))) [("k", 10)]
def F20c5 : EV.SE := .comp (.ife (.cmp .GtE (.bi .sum (.cons F20c4 .nil)) (.var 8)) (.lit (.str [49])) (.lit (.str [48]))) (.nm 9) (.rng1 (.var 2)) .nop [("p", 9)]
def F20c6 : EV.SE := .comp (.call 17 (.cons (.var 0) (.cons (.lit (.int 2)) .nil))) (.nm 9) (.rng1 (.var 2)) .nop [("p", 9)]
def F20c7 : EV.SE := .comp (.bi .strF (.cons (.ix (.var 5) (.bin .BitAnd (.var 9) (.var 4))) .nil)) (.nm 9) (.rng1 (.var 2)) .nop [("p", 9)]
def f20 : EV.Fn := ⟨"_law_function", 2, ["draws", "n", "size", "pick", "keep", "small", "ones_v", "weights", "bound", "p", "k"], [true, false], (.seq (.asg 2 (.bin .LShift (.lit (.int 1)) (.var 1))) (.seq (.asg 3 (.call 17 (.cons (.var 0) (.cons (.lit (.int 4)) .nil)))) (.seq (.cond (.cmp .Eq (.var 3) (.lit (.int 0))) (.seq (.ret (.tup (.cons (.var 1) (.cons (.me .join (.lit (.str [])) (.cons F20c0 .nil)) .nil)))) .skip) .skip) (.seq (.cond (.cmp .Eq (.var 3) (.lit (.int 1))) (.seq (.asg 6 F20c1) (.seq (.ret (.tup (.cons (.var 1) (.cons (.me .join (.lit (.str [])) (.cons F20c2 .nil)) .nil)))) .skip)) .skip) (.seq (.cond (.cmp .Eq (.var 3) (.lit (.int 2))) (.seq (.asg 7 F20c3) (.seq (.asg 8 (.call 17 (.cons (.var 0) (.cons (.lit (.int 5)) .nil)))) (.seq (.ret (.tup (.cons (.var 1) (.cons (.me .join (.lit (.str [])) (.cons F20c5 .nil)) .nil)))) .skip))) .skip) (.seq (.asg 4 (.call 17 (.cons (.var 0) (.cons (.var 2) .nil)))) (.seq (.asg 5 F20c6) (.seq (.ret (.tup (.cons (.var 1) (.cons (.me .join (.lit (.str [])) (.cons F20c7 .nil)) .nil)))) .skip))))))))⟩
def F21c0 : EV.SE := .comp (.ife (.var 2) (.lit (.str [49])) (.lit (.str [48]))) (.nm 2) (.var 1) .nop [("value", 2)]
def f21 : EV.Fn := ⟨"_law_made", 2, ["n", "values", "value"], [], (.seq (.ret (.tup (.cons (.var 0) (.cons (.me .join (.lit (.str [])) (.cons F21c0 .nil)) .nil)))) .skip)⟩
def f22 : EV.Fn := ⟨"_law_bit", 2, ["p", "k"], [], (.seq (.ret (.bin .BitAnd (.bin .RShift (.var 0) (.var 1)) (.lit (.int 1)))) .skip)⟩
def f23 : EV.Fn := ⟨"_law_ones", 1, ["p", "found"], [], (.seq (.asg 1 (.lit (.int 0))) (.seq (.whil (.cmp .Gt (.var 0) (.lit (.int 0))) (.seq (.asg 1 (.bin .Add (.var 1) (.bin .Mod (.var 0) (.lit (.int 2))))) (.seq (.asg 0 (.bin .FloorDiv (.var 0) (.lit (.int 2)))) .skip))) (.seq (.ret (.var 1)) .skip)))⟩
def F24c0 : EV.SE := .comp (.bin .Add (.var 4) (.lst (.cons (.var 5) .nil))) (.nm 5) (.rng1 (.var 0)) (.cmp .NotIn (.var 5) (.var 4)) [("k", 5)]
def F24b0 : EV.SS := (.seq (.asg 3 (.bin .Add (.var 3) F24c0)) .skip)
def F24l0 : EV.SS := .forS (.nm 4) (.var 1) F24b0
def F24b1 : EV.SS := (.seq (.asg 3 (.lst .nil)) (.seq F24l0 (.seq (.asg 1 (.var 3)) .skip)))
def F24l1 : EV.SS := .forS (.nm 2) (.rng1 (.var 0)) F24b1
def f24 : EV.Fn := ⟨"_law_orders", 1, ["many", "found", "turn", "longer", "order", "k"], [], (.seq (.asg 1 (.lst (.cons (.lst .nil) .nil))) (.seq F24l1 (.seq (.ret (.var 1)) .skip)))⟩
def f25 : EV.Fn := ⟨"_law_divisor", 2, ["a", "b"], [], (.seq (.whil (.cmp .Gt (.var 1) (.lit (.int 0))) (.seq (.asgT [0, 1] (.tup (.cons (.var 1) (.cons (.bin .Mod (.var 0) (.var 1)) .nil)))) .skip)) (.seq (.ret (.var 0)) .skip))⟩
def F26c0 : EV.SE := .comp (.call 17 (.cons (.var 1) (.cons (.ix (.lst (.cons (.lit (.int 3)) (.cons (.lit (.int 10)) (.cons (.lit (.int 1001)) .nil)))) (.call 17 (.cons (.var 1) (.cons (.lit (.int 3)) .nil)))) .nil))) (.nm 13) (.rng1 (.var 2)) .nop [("k", 13)]
def F26c1 : EV.SE := .comp (.ix (.var 3) (.var 13)) (.nm 13) (.rng1 (.var 2)) (.cmp .Eq (.call 22 (.cons (.var 15) (.cons (.var 13) .nil))) (.lit (.int 1))) [("k", 13)]
def F26c2 : EV.SE := .comp (.cmp .GtE (.bi .sum (.cons F26c1 .nil)) (.var 4)) (.nm 15) (.rng1 (.bin .LShift (.lit (.int 1)) (.var 2))) .nop [("p", 15)]
def F26c3 : EV.SE := .comp (.var 15) (.nm 15) (.rng1 (.bin .LShift (.lit (.int 1)) (.var 2))) (.and (.cmp .Eq (.call 22 (.cons (.var 15) (.cons (.var 13) .nil))) (.lit (.int 1))) (.and (.ix (.var 5) (.var 15)) (.not (.ix (.var 5) (.bin .Sub (.var 15) (.bin .LShift (.lit (.int 1)) (.var 13))))))) [("p", 15)]
def F26c4 : EV.SE := .comp (.bi .len (.cons F26c3 .nil)) (.nm 13) (.rng1 (.var 2)) .nop [("k", 13)]
def F26c5 : EV.SE := .comp (.var 13) (.nm 13) (.rng1 (.var 2)) (.cmp .Eq (.ix (.var 6) (.var 13)) (.lit (.int 0))) [("k", 13)]
def F26b0 : EV.SS := (.seq (.cond (.cmp2 .Lt .LtE (.var 12) (.var 4) (.bin .Add (.var 12) (.ix (.var 3) (.var 13)))) (.seq (.asgI 7 (.var 13) (.bin .Add (.ix (.var 7) (.var 13)) (.lit (.int 1)))) .skip) .skip) (.seq (.asg 12 (.bin .Add (.var 12) (.ix (.var 3) (.var 13)))) .skip))
def F26l0 : EV.SS := .forS (.nm 13) (.var 9) F26b0
def F26b1 : EV.SS := (.seq (.asg 12 (.lit (.int 0))) (.seq F26l0 .skip))
def F26l1 : EV.SS := .forS (.nm 9) (.var 8) F26b1
def F26c6 : EV.SE := .comp (.tup (.cons (.bin .FloorDiv (.var 16) (.call 25 (.cons (.bi .len (.cons (.var 8) .nil)) (.cons (.var 16) .nil)))) (.cons (.bin .FloorDiv (.bi .len (.cons (.var 8) .nil)) (.call 25 (.cons (.bi .len (.cons (.var 8) .nil)) (.cons (.var 16) .nil)))) .nil))) (.nm 16) (.var 7) .nop [("number", 16)]
def F26b2 : EV.SS := (.seq (.tryS (.seq (.expr (.callv 14 (.cons (.ix (.var 11) (.lit (.int 0))) (.cons (.ix (.var 11) (.lit (.int 1))) .nil)))) (.seq (.ret (.lit (.bl false))) .skip)) (.hnd 1 (.seq .skip .skip) .skip)) .skip)
def F26l2 : EV.SS := .forS (.nm 14) (.lst (.cons (.fnv 9) (.cons (.fnv 12) (.cons (.fnv 13) (.cons (.fnv 14) .nil))))) F26b2
def F26b3 : EV.SS := (.seq F26l2 .skip)
def F26l3 : EV.SS := .forS (.nm 11) (.lst (.cons (.tup (.cons (.lst .nil) (.cons (.lit (.int 1)) .nil))) (.cons (.tup (.cons (.bin .Mult (.lst (.cons (.lit (.int 1)) .nil)) (.lit (.int 11))) (.cons (.lit (.int 1)) .nil))) (.cons (.tup (.cons (.lst (.cons (.una .USub (.lit (.int 1))) .nil)) (.cons (.lit (.int 1)) .nil))) (.cons (.tup (.cons (.lst (.cons (.lit (.int 1001)) .nil)) (.cons (.lit (.int 1)) .nil))) (.cons (.tup (.cons (.lst (.cons (.lit (.bl true)) .nil)) (.cons (.lit (.int 1)) .nil))) (.cons (.tup (.cons (.lst (.cons (.lit (.int 1)) .nil)) (.cons (.lit (.int 0)) .nil))) (.cons (.tup (.cons (.lst (.cons (.lit (.int 1)) .nil)) (.cons (.lit (.int 10001)) .nil))) (.cons (.tup (.cons (.lst (.cons (.lit (.int 1)) .nil)) (.cons (.lit (.bl true)) .nil))) (.cons (.tup (.cons (.lit .non) (.cons (.lit (.int 1)) .nil))) (.cons (.tup (.cons (.tup (.cons (.lit (.int 1)) .nil)) (.cons (.lit (.int 1)) .nil))) .nil))))))))))) F26b3
def f26 : EV.Fn := ⟨"law", 1, ["script", "draws", "many", "weights", "bound", "wins", "swing", "decided_v", "orders", "order", "due", "bad", "total", "k", "what", "p", "number"], [], (.seq (.asg 1 (.lst (.cons (.call 16 (.cons (.var 0) .nil)) (.cons (.lit (.int 0)) .nil)))) (.seq (.asg 2 (.bin .Add (.lit (.int 1)) (.call 17 (.cons (.var 1) (.cons (.lit (.int 5)) .nil))))) (.seq (.asg 3 F26c0) (.seq (.asg 4 (.ix (.lst (.cons (.bin .Add (.lit (.int 1)) (.call 17 (.cons (.var 1) (.cons (.lit (.int 12)) .nil)))) (.cons (.bi .max2 (.cons (.bi .sum (.cons (.var 3) .nil)) (.cons (.lit (.int 1)) .nil))) (.cons (.bin .Add (.lit (.int 1)) (.bi .sum (.cons (.var 3) .nil))) (.cons (.bi .max2 (.cons (.bin .FloorDiv (.bi .sum (.cons (.var 3) .nil)) (.lit (.int 2))) (.cons (.lit (.int 1)) .nil))) .nil))))) (.call 17 (.cons (.var 1) (.cons (.lit (.int 4)) .nil))))) (.seq (.asg 5 F26c2) (.seq (.asg 6 F26c4) (.seq (.cond (.or (.not (.call 18 (.cons (.call 9 (.cons (.var 3) (.cons (.var 4) .nil))) (.cons (.var 6) .nil)))) (.not (.call 18 (.cons (.call 14 (.cons (.var 3) (.cons (.var 4) .nil))) (.cons F26c5 .nil))))) (.seq (.ret (.lit (.bl false))) .skip) .skip) (.seq (.asg 7 (.bin .Mult (.lst (.cons (.lit (.int 0)) .nil)) (.var 2))) (.seq (.asg 8 (.call 24 (.cons (.var 2) .nil))) (.seq F26l1 (.seq (.cond (.not (.call 18 (.cons (.call 12 (.cons (.var 3) (.cons (.var 4) .nil))) (.cons (.var 7) .nil)))) (.seq (.ret (.lit (.bl false))) .skip) .skip) (.seq (.asg 10 F26c6) (.seq (.cond (.not (.call 18 (.cons (.call 13 (.cons (.var 3) (.cons (.var 4) .nil))) (.cons (.var 10) .nil)))) (.seq (.ret (.lit (.bl false))) .skip) .skip) (.seq F26l3 (.seq (.ret (.lit (.bl true))) .skip)))))))))))))))⟩
def G : EV.Cfg := ⟨[f0, f1, f2, f3, f4, f5, f6, f7, f8, f9, f10, f11, f12, f13, f14, f15, f16, f17, f18, f19, f20, f21, f22, f23, f24, f25, f26], ["SwitchError", "BadArgument"], [[true, false], [true, true]], [("MOST_WEIGHT", .int 1000)], 1000000⟩
@[simp] theorem go0 (call : Nat → List EV.Sl → EV.FR) (b0 b1 b2 : EV.Bor) (e : EV.Ev) : EV.goCall G call 0 [b0, b1, b2] e = (match EV.mkArgs e [] [b0, b1, b2] with | none => .st | some z => (call 0 z.1).res.put e z.2) := EV.go_pure call [b0, b1, b2] e rfl rfl rfl
@[simp] theorem go1 (call : Nat → List EV.Sl → EV.FR) (b0 b1 b2 : EV.Bor) (e : EV.Ev) : EV.goCall G call 1 [b0, b1, b2] e = (match EV.mkArgs e [] [b0, b1, b2] with | none => .st | some z => (call 1 z.1).res.put e z.2) := EV.go_pure call [b0, b1, b2] e rfl rfl rfl
@[simp] theorem go2 (call : Nat → List EV.Sl → EV.FR) (b0 b1 : EV.Bor) (e : EV.Ev) : EV.goCall G call 2 [b0, b1] e = (match EV.mkArgs e [] [b0, b1] with | none => .st | some z => (call 2 z.1).res.put e z.2) := EV.go_pure call [b0, b1] e rfl rfl rfl
@[simp] theorem go3 (call : Nat → List EV.Sl → EV.FR) (b0 b1 : EV.Bor) (e : EV.Ev) : EV.goCall G call 3 [b0, b1] e = (match EV.mkArgs e [] [b0, b1] with | none => .st | some z => (call 3 z.1).res.put e z.2) := EV.go_pure call [b0, b1] e rfl rfl rfl
@[simp] theorem go4 (call : Nat → List EV.Sl → EV.FR) (b0 b1 : EV.Bor) (e : EV.Ev) : EV.goCall G call 4 [b0, b1] e = (match EV.mkArgs e [] [b0, b1] with | none => .st | some z => (call 4 z.1).res.put e z.2) := EV.go_pure call [b0, b1] e rfl rfl rfl
@[simp] theorem go5 (call : Nat → List EV.Sl → EV.FR) (b0 : EV.Bor) (e : EV.Ev) : EV.goCall G call 5 [b0] e = (match EV.mkArgs e [] [b0] with | none => .st | some z => (call 5 z.1).res.put e z.2) := EV.go_pure call [b0] e rfl rfl rfl
@[simp] theorem go6 (call : Nat → List EV.Sl → EV.FR) (b0 : EV.Bor) (e : EV.Ev) : EV.goCall G call 6 [b0] e = (match EV.mkArgs e [] [b0] with | none => .st | some z => (call 6 z.1).res.put e z.2) := EV.go_pure call [b0] e rfl rfl rfl
@[simp] theorem go7 (call : Nat → List EV.Sl → EV.FR) (b0 b1 : EV.Bor) (e : EV.Ev) : EV.goCall G call 7 [b0, b1] e = (match EV.mkArgs e [] [b0, b1] with | none => .st | some z => (call 7 z.1).res.put e z.2) := EV.go_pure call [b0, b1] e rfl rfl rfl
@[simp] theorem go8 (call : Nat → List EV.Sl → EV.FR) (b0 b1 b2 : EV.Bor) (e : EV.Ev) : EV.goCall G call 8 [b0, b1, b2] e = (match EV.mkArgs e [] [b0, b1, b2] with | none => .st | some z => (call 8 z.1).res.put e z.2) := EV.go_pure call [b0, b1, b2] e rfl rfl rfl
@[simp] theorem go9 (call : Nat → List EV.Sl → EV.FR) (b0 b1 : EV.Bor) (e : EV.Ev) : EV.goCall G call 9 [b0, b1] e = (match EV.mkArgs e [] [b0, b1] with | none => .st | some z => (call 9 z.1).res.put e z.2) := EV.go_pure call [b0, b1] e rfl rfl rfl
@[simp] theorem go10 (call : Nat → List EV.Sl → EV.FR) (b0 : EV.Bor) (e : EV.Ev) : EV.goCall G call 10 [b0] e = (match EV.mkArgs e [] [b0] with | none => .st | some z => (call 10 z.1).res.put e z.2) := EV.go_pure call [b0] e rfl rfl rfl
@[simp] theorem go11 (call : Nat → List EV.Sl → EV.FR) (b0 b1 : EV.Bor) (e : EV.Ev) : EV.goCall G call 11 [b0, b1] e = (match EV.mkArgs e [] [b0, b1] with | none => .st | some z => (call 11 z.1).res.put e z.2) := EV.go_pure call [b0, b1] e rfl rfl rfl
@[simp] theorem go12 (call : Nat → List EV.Sl → EV.FR) (b0 b1 : EV.Bor) (e : EV.Ev) : EV.goCall G call 12 [b0, b1] e = (match EV.mkArgs e [] [b0, b1] with | none => .st | some z => (call 12 z.1).res.put e z.2) := EV.go_pure call [b0, b1] e rfl rfl rfl
@[simp] theorem go13 (call : Nat → List EV.Sl → EV.FR) (b0 b1 : EV.Bor) (e : EV.Ev) : EV.goCall G call 13 [b0, b1] e = (match EV.mkArgs e [] [b0, b1] with | none => .st | some z => (call 13 z.1).res.put e z.2) := EV.go_pure call [b0, b1] e rfl rfl rfl
@[simp] theorem go14 (call : Nat → List EV.Sl → EV.FR) (b0 b1 : EV.Bor) (e : EV.Ev) : EV.goCall G call 14 [b0, b1] e = (match EV.mkArgs e [] [b0, b1] with | none => .st | some z => (call 14 z.1).res.put e z.2) := EV.go_pure call [b0, b1] e rfl rfl rfl
@[simp] theorem go15 (call : Nat → List EV.Sl → EV.FR) (b0 b1 : EV.Bor) (e : EV.Ev) : EV.goCall G call 15 [b0, b1] e = (match EV.mkArgs e [] [b0, b1] with | none => .st | some z => (call 15 z.1).res.put e z.2) := EV.go_pure call [b0, b1] e rfl rfl rfl
@[simp] theorem go16 (call : Nat → List EV.Sl → EV.FR) (b0 : EV.Bor) (e : EV.Ev) : EV.goCall G call 16 [b0] e = (match EV.mkArgs e [] [b0] with | none => .st | some z => (call 16 z.1).res.put e z.2) := EV.go_pure call [b0] e rfl rfl rfl
@[simp] theorem go17 (call : Nat → List EV.Sl → EV.FR) (b0 b1 : EV.Bor) (e : EV.Ev) : EV.goCall G call 17 [b0, b1] e = EV.doCall call [true, false] 17 [b0, b1] e := rfl
@[simp] theorem go18 (call : Nat → List EV.Sl → EV.FR) (b0 b1 : EV.Bor) (e : EV.Ev) : EV.goCall G call 18 [b0, b1] e = (match EV.mkArgs e [] [b0, b1] with | none => .st | some z => (call 18 z.1).res.put e z.2) := EV.go_pure call [b0, b1] e rfl rfl rfl
@[simp] theorem go19 (call : Nat → List EV.Sl → EV.FR) (b0 b1 : EV.Bor) (e : EV.Ev) : EV.goCall G call 19 [b0, b1] e = (match EV.mkArgs e [] [b0, b1] with | none => .st | some z => (call 19 z.1).res.put e z.2) := EV.go_pure call [b0, b1] e rfl rfl rfl
@[simp] theorem go20 (call : Nat → List EV.Sl → EV.FR) (b0 b1 : EV.Bor) (e : EV.Ev) : EV.goCall G call 20 [b0, b1] e = EV.doCall call [true, false] 20 [b0, b1] e := rfl
@[simp] theorem go21 (call : Nat → List EV.Sl → EV.FR) (b0 b1 : EV.Bor) (e : EV.Ev) : EV.goCall G call 21 [b0, b1] e = (match EV.mkArgs e [] [b0, b1] with | none => .st | some z => (call 21 z.1).res.put e z.2) := EV.go_pure call [b0, b1] e rfl rfl rfl
@[simp] theorem go22 (call : Nat → List EV.Sl → EV.FR) (b0 b1 : EV.Bor) (e : EV.Ev) : EV.goCall G call 22 [b0, b1] e = (match EV.mkArgs e [] [b0, b1] with | none => .st | some z => (call 22 z.1).res.put e z.2) := EV.go_pure call [b0, b1] e rfl rfl rfl
@[simp] theorem go23 (call : Nat → List EV.Sl → EV.FR) (b0 : EV.Bor) (e : EV.Ev) : EV.goCall G call 23 [b0] e = (match EV.mkArgs e [] [b0] with | none => .st | some z => (call 23 z.1).res.put e z.2) := EV.go_pure call [b0] e rfl rfl rfl
@[simp] theorem go24 (call : Nat → List EV.Sl → EV.FR) (b0 : EV.Bor) (e : EV.Ev) : EV.goCall G call 24 [b0] e = (match EV.mkArgs e [] [b0] with | none => .st | some z => (call 24 z.1).res.put e z.2) := EV.go_pure call [b0] e rfl rfl rfl
@[simp] theorem go25 (call : Nat → List EV.Sl → EV.FR) (b0 b1 : EV.Bor) (e : EV.Ev) : EV.goCall G call 25 [b0, b1] e = (match EV.mkArgs e [] [b0, b1] with | none => .st | some z => (call 25 z.1).res.put e z.2) := EV.go_pure call [b0, b1] e rfl rfl rfl
@[simp] theorem go26 (call : Nat → List EV.Sl → EV.FR) (b0 : EV.Bor) (e : EV.Ev) : EV.goCall G call 26 [b0] e = (match EV.mkArgs e [] [b0] with | none => .st | some z => (call 26 z.1).res.put e z.2) := EV.go_pure call [b0] e rfl rfl rfl
@[simp] theorem F6c0_b (call : Nat → List EV.Sl → EV.FR) (e : EV.Ev) : (EV.evR G call F6c0).b e = ((EV.evR G call F6c0).f e).bind fun x e1 => .ok (.dat x.1) e1 := rfl
@[simp] theorem F6c0_t (call : Nat → List EV.Sl → EV.FR) (e : EV.Ev) : (EV.evR G call F6c0).t e = ((EV.evR G call F6c0).f e).bind fun x e1 => EV.R.of (EV.truD x.1) e1 := rfl
@[simp] theorem F6c0_i (call : Nat → List EV.Sl → EV.FR) (e : EV.Ev) : (EV.evR G call F6c0).i e = ((EV.evR G call F6c0).f e).bind fun x e1 => EV.R.of (EV.itemsD x.1) e1 := rfl
@[simp] theorem F7c0_b (call : Nat → List EV.Sl → EV.FR) (e : EV.Ev) : (EV.evR G call F7c0).b e = ((EV.evR G call F7c0).f e).bind fun x e1 => .ok (.dat x.1) e1 := rfl
@[simp] theorem F7c0_t (call : Nat → List EV.Sl → EV.FR) (e : EV.Ev) : (EV.evR G call F7c0).t e = ((EV.evR G call F7c0).f e).bind fun x e1 => EV.R.of (EV.truD x.1) e1 := rfl
@[simp] theorem F7c0_i (call : Nat → List EV.Sl → EV.FR) (e : EV.Ev) : (EV.evR G call F7c0).i e = ((EV.evR G call F7c0).f e).bind fun x e1 => EV.R.of (EV.itemsD x.1) e1 := rfl
@[simp] theorem F8c0_b (call : Nat → List EV.Sl → EV.FR) (e : EV.Ev) : (EV.evR G call F8c0).b e = ((EV.evR G call F8c0).f e).bind fun x e1 => .ok (.dat x.1) e1 := rfl
@[simp] theorem F8c0_t (call : Nat → List EV.Sl → EV.FR) (e : EV.Ev) : (EV.evR G call F8c0).t e = ((EV.evR G call F8c0).f e).bind fun x e1 => EV.R.of (EV.truD x.1) e1 := rfl
@[simp] theorem F8c0_i (call : Nat → List EV.Sl → EV.FR) (e : EV.Ev) : (EV.evR G call F8c0).i e = ((EV.evR G call F8c0).f e).bind fun x e1 => EV.R.of (EV.itemsD x.1) e1 := rfl
@[simp] theorem F8c1_b (call : Nat → List EV.Sl → EV.FR) (e : EV.Ev) : (EV.evR G call F8c1).b e = ((EV.evR G call F8c1).f e).bind fun x e1 => .ok (.dat x.1) e1 := rfl
@[simp] theorem F8c1_t (call : Nat → List EV.Sl → EV.FR) (e : EV.Ev) : (EV.evR G call F8c1).t e = ((EV.evR G call F8c1).f e).bind fun x e1 => EV.R.of (EV.truD x.1) e1 := rfl
@[simp] theorem F8c1_i (call : Nat → List EV.Sl → EV.FR) (e : EV.Ev) : (EV.evR G call F8c1).i e = ((EV.evR G call F8c1).f e).bind fun x e1 => EV.R.of (EV.itemsD x.1) e1 := rfl
@[simp] theorem F9c0_b (call : Nat → List EV.Sl → EV.FR) (e : EV.Ev) : (EV.evR G call F9c0).b e = ((EV.evR G call F9c0).f e).bind fun x e1 => .ok (.dat x.1) e1 := rfl
@[simp] theorem F9c0_t (call : Nat → List EV.Sl → EV.FR) (e : EV.Ev) : (EV.evR G call F9c0).t e = ((EV.evR G call F9c0).f e).bind fun x e1 => EV.R.of (EV.truD x.1) e1 := rfl
@[simp] theorem F9c0_i (call : Nat → List EV.Sl → EV.FR) (e : EV.Ev) : (EV.evR G call F9c0).i e = ((EV.evR G call F9c0).f e).bind fun x e1 => EV.R.of (EV.itemsD x.1) e1 := rfl
@[simp] theorem F11c0_b (call : Nat → List EV.Sl → EV.FR) (e : EV.Ev) : (EV.evR G call F11c0).b e = ((EV.evR G call F11c0).f e).bind fun x e1 => .ok (.dat x.1) e1 := rfl
@[simp] theorem F11c0_t (call : Nat → List EV.Sl → EV.FR) (e : EV.Ev) : (EV.evR G call F11c0).t e = ((EV.evR G call F11c0).f e).bind fun x e1 => EV.R.of (EV.truD x.1) e1 := rfl
@[simp] theorem F11c0_i (call : Nat → List EV.Sl → EV.FR) (e : EV.Ev) : (EV.evR G call F11c0).i e = ((EV.evR G call F11c0).f e).bind fun x e1 => EV.R.of (EV.itemsD x.1) e1 := rfl
@[simp] theorem F13c0_b (call : Nat → List EV.Sl → EV.FR) (e : EV.Ev) : (EV.evR G call F13c0).b e = ((EV.evR G call F13c0).f e).bind fun x e1 => .ok (.dat x.1) e1 := rfl
@[simp] theorem F13c0_t (call : Nat → List EV.Sl → EV.FR) (e : EV.Ev) : (EV.evR G call F13c0).t e = ((EV.evR G call F13c0).f e).bind fun x e1 => EV.R.of (EV.truD x.1) e1 := rfl
@[simp] theorem F13c0_i (call : Nat → List EV.Sl → EV.FR) (e : EV.Ev) : (EV.evR G call F13c0).i e = ((EV.evR G call F13c0).f e).bind fun x e1 => EV.R.of (EV.itemsD x.1) e1 := rfl
@[simp] theorem F14c0_b (call : Nat → List EV.Sl → EV.FR) (e : EV.Ev) : (EV.evR G call F14c0).b e = ((EV.evR G call F14c0).f e).bind fun x e1 => .ok (.dat x.1) e1 := rfl
@[simp] theorem F14c0_t (call : Nat → List EV.Sl → EV.FR) (e : EV.Ev) : (EV.evR G call F14c0).t e = ((EV.evR G call F14c0).f e).bind fun x e1 => EV.R.of (EV.truD x.1) e1 := rfl
@[simp] theorem F14c0_i (call : Nat → List EV.Sl → EV.FR) (e : EV.Ev) : (EV.evR G call F14c0).i e = ((EV.evR G call F14c0).f e).bind fun x e1 => EV.R.of (EV.itemsD x.1) e1 := rfl
@[simp] theorem F20c0_b (call : Nat → List EV.Sl → EV.FR) (e : EV.Ev) : (EV.evR G call F20c0).b e = ((EV.evR G call F20c0).f e).bind fun x e1 => .ok (.dat x.1) e1 := rfl
@[simp] theorem F20c0_t (call : Nat → List EV.Sl → EV.FR) (e : EV.Ev) : (EV.evR G call F20c0).t e = ((EV.evR G call F20c0).f e).bind fun x e1 => EV.R.of (EV.truD x.1) e1 := rfl
@[simp] theorem F20c0_i (call : Nat → List EV.Sl → EV.FR) (e : EV.Ev) : (EV.evR G call F20c0).i e = ((EV.evR G call F20c0).f e).bind fun x e1 => EV.R.of (EV.itemsD x.1) e1 := rfl
@[simp] theorem F20c1_b (call : Nat → List EV.Sl → EV.FR) (e : EV.Ev) : (EV.evR G call F20c1).b e = ((EV.evR G call F20c1).f e).bind fun x e1 => .ok (.dat x.1) e1 := rfl
@[simp] theorem F20c1_t (call : Nat → List EV.Sl → EV.FR) (e : EV.Ev) : (EV.evR G call F20c1).t e = ((EV.evR G call F20c1).f e).bind fun x e1 => EV.R.of (EV.truD x.1) e1 := rfl
@[simp] theorem F20c1_i (call : Nat → List EV.Sl → EV.FR) (e : EV.Ev) : (EV.evR G call F20c1).i e = ((EV.evR G call F20c1).f e).bind fun x e1 => EV.R.of (EV.itemsD x.1) e1 := rfl
@[simp] theorem F20c2_b (call : Nat → List EV.Sl → EV.FR) (e : EV.Ev) : (EV.evR G call F20c2).b e = ((EV.evR G call F20c2).f e).bind fun x e1 => .ok (.dat x.1) e1 := rfl
@[simp] theorem F20c2_t (call : Nat → List EV.Sl → EV.FR) (e : EV.Ev) : (EV.evR G call F20c2).t e = ((EV.evR G call F20c2).f e).bind fun x e1 => EV.R.of (EV.truD x.1) e1 := rfl
@[simp] theorem F20c2_i (call : Nat → List EV.Sl → EV.FR) (e : EV.Ev) : (EV.evR G call F20c2).i e = ((EV.evR G call F20c2).f e).bind fun x e1 => EV.R.of (EV.itemsD x.1) e1 := rfl
@[simp] theorem F20c3_b (call : Nat → List EV.Sl → EV.FR) (e : EV.Ev) : (EV.evR G call F20c3).b e = ((EV.evR G call F20c3).f e).bind fun x e1 => .ok (.dat x.1) e1 := rfl
@[simp] theorem F20c3_t (call : Nat → List EV.Sl → EV.FR) (e : EV.Ev) : (EV.evR G call F20c3).t e = ((EV.evR G call F20c3).f e).bind fun x e1 => EV.R.of (EV.truD x.1) e1 := rfl
@[simp] theorem F20c3_i (call : Nat → List EV.Sl → EV.FR) (e : EV.Ev) : (EV.evR G call F20c3).i e = ((EV.evR G call F20c3).f e).bind fun x e1 => EV.R.of (EV.itemsD x.1) e1 := rfl
@[simp] theorem F20c4_b (call : Nat → List EV.Sl → EV.FR) (e : EV.Ev) : (EV.evR G call F20c4).b e = ((EV.evR G call F20c4).f e).bind fun x e1 => .ok (.dat x.1) e1 := rfl
@[simp] theorem F20c4_t (call : Nat → List EV.Sl → EV.FR) (e : EV.Ev) : (EV.evR G call F20c4).t e = ((EV.evR G call F20c4).f e).bind fun x e1 => EV.R.of (EV.truD x.1) e1 := rfl
@[simp] theorem F20c4_i (call : Nat → List EV.Sl → EV.FR) (e : EV.Ev) : (EV.evR G call F20c4).i e = ((EV.evR G call F20c4).f e).bind fun x e1 => EV.R.of (EV.itemsD x.1) e1 := rfl
@[simp] theorem F20c5_b (call : Nat → List EV.Sl → EV.FR) (e : EV.Ev) : (EV.evR G call F20c5).b e = ((EV.evR G call F20c5).f e).bind fun x e1 => .ok (.dat x.1) e1 := rfl
@[simp] theorem F20c5_t (call : Nat → List EV.Sl → EV.FR) (e : EV.Ev) : (EV.evR G call F20c5).t e = ((EV.evR G call F20c5).f e).bind fun x e1 => EV.R.of (EV.truD x.1) e1 := rfl
@[simp] theorem F20c5_i (call : Nat → List EV.Sl → EV.FR) (e : EV.Ev) : (EV.evR G call F20c5).i e = ((EV.evR G call F20c5).f e).bind fun x e1 => EV.R.of (EV.itemsD x.1) e1 := rfl
@[simp] theorem F20c6_b (call : Nat → List EV.Sl → EV.FR) (e : EV.Ev) : (EV.evR G call F20c6).b e = ((EV.evR G call F20c6).f e).bind fun x e1 => .ok (.dat x.1) e1 := rfl
@[simp] theorem F20c6_t (call : Nat → List EV.Sl → EV.FR) (e : EV.Ev) : (EV.evR G call F20c6).t e = ((EV.evR G call F20c6).f e).bind fun x e1 => EV.R.of (EV.truD x.1) e1 := rfl
@[simp] theorem F20c6_i (call : Nat → List EV.Sl → EV.FR) (e : EV.Ev) : (EV.evR G call F20c6).i e = ((EV.evR G call F20c6).f e).bind fun x e1 => EV.R.of (EV.itemsD x.1) e1 := rfl
@[simp] theorem F20c7_b (call : Nat → List EV.Sl → EV.FR) (e : EV.Ev) : (EV.evR G call F20c7).b e = ((EV.evR G call F20c7).f e).bind fun x e1 => .ok (.dat x.1) e1 := rfl
@[simp] theorem F20c7_t (call : Nat → List EV.Sl → EV.FR) (e : EV.Ev) : (EV.evR G call F20c7).t e = ((EV.evR G call F20c7).f e).bind fun x e1 => EV.R.of (EV.truD x.1) e1 := rfl
@[simp] theorem F20c7_i (call : Nat → List EV.Sl → EV.FR) (e : EV.Ev) : (EV.evR G call F20c7).i e = ((EV.evR G call F20c7).f e).bind fun x e1 => EV.R.of (EV.itemsD x.1) e1 := rfl
@[simp] theorem F21c0_b (call : Nat → List EV.Sl → EV.FR) (e : EV.Ev) : (EV.evR G call F21c0).b e = ((EV.evR G call F21c0).f e).bind fun x e1 => .ok (.dat x.1) e1 := rfl
@[simp] theorem F21c0_t (call : Nat → List EV.Sl → EV.FR) (e : EV.Ev) : (EV.evR G call F21c0).t e = ((EV.evR G call F21c0).f e).bind fun x e1 => EV.R.of (EV.truD x.1) e1 := rfl
@[simp] theorem F21c0_i (call : Nat → List EV.Sl → EV.FR) (e : EV.Ev) : (EV.evR G call F21c0).i e = ((EV.evR G call F21c0).f e).bind fun x e1 => EV.R.of (EV.itemsD x.1) e1 := rfl
@[simp] theorem F24c0_b (call : Nat → List EV.Sl → EV.FR) (e : EV.Ev) : (EV.evR G call F24c0).b e = ((EV.evR G call F24c0).f e).bind fun x e1 => .ok (.dat x.1) e1 := rfl
@[simp] theorem F24c0_t (call : Nat → List EV.Sl → EV.FR) (e : EV.Ev) : (EV.evR G call F24c0).t e = ((EV.evR G call F24c0).f e).bind fun x e1 => EV.R.of (EV.truD x.1) e1 := rfl
@[simp] theorem F24c0_i (call : Nat → List EV.Sl → EV.FR) (e : EV.Ev) : (EV.evR G call F24c0).i e = ((EV.evR G call F24c0).f e).bind fun x e1 => EV.R.of (EV.itemsD x.1) e1 := rfl
@[simp] theorem F26c0_b (call : Nat → List EV.Sl → EV.FR) (e : EV.Ev) : (EV.evR G call F26c0).b e = ((EV.evR G call F26c0).f e).bind fun x e1 => .ok (.dat x.1) e1 := rfl
@[simp] theorem F26c0_t (call : Nat → List EV.Sl → EV.FR) (e : EV.Ev) : (EV.evR G call F26c0).t e = ((EV.evR G call F26c0).f e).bind fun x e1 => EV.R.of (EV.truD x.1) e1 := rfl
@[simp] theorem F26c0_i (call : Nat → List EV.Sl → EV.FR) (e : EV.Ev) : (EV.evR G call F26c0).i e = ((EV.evR G call F26c0).f e).bind fun x e1 => EV.R.of (EV.itemsD x.1) e1 := rfl
@[simp] theorem F26c1_b (call : Nat → List EV.Sl → EV.FR) (e : EV.Ev) : (EV.evR G call F26c1).b e = ((EV.evR G call F26c1).f e).bind fun x e1 => .ok (.dat x.1) e1 := rfl
@[simp] theorem F26c1_t (call : Nat → List EV.Sl → EV.FR) (e : EV.Ev) : (EV.evR G call F26c1).t e = ((EV.evR G call F26c1).f e).bind fun x e1 => EV.R.of (EV.truD x.1) e1 := rfl
@[simp] theorem F26c1_i (call : Nat → List EV.Sl → EV.FR) (e : EV.Ev) : (EV.evR G call F26c1).i e = ((EV.evR G call F26c1).f e).bind fun x e1 => EV.R.of (EV.itemsD x.1) e1 := rfl
@[simp] theorem F26c2_b (call : Nat → List EV.Sl → EV.FR) (e : EV.Ev) : (EV.evR G call F26c2).b e = ((EV.evR G call F26c2).f e).bind fun x e1 => .ok (.dat x.1) e1 := rfl
@[simp] theorem F26c2_t (call : Nat → List EV.Sl → EV.FR) (e : EV.Ev) : (EV.evR G call F26c2).t e = ((EV.evR G call F26c2).f e).bind fun x e1 => EV.R.of (EV.truD x.1) e1 := rfl
@[simp] theorem F26c2_i (call : Nat → List EV.Sl → EV.FR) (e : EV.Ev) : (EV.evR G call F26c2).i e = ((EV.evR G call F26c2).f e).bind fun x e1 => EV.R.of (EV.itemsD x.1) e1 := rfl
@[simp] theorem F26c3_b (call : Nat → List EV.Sl → EV.FR) (e : EV.Ev) : (EV.evR G call F26c3).b e = ((EV.evR G call F26c3).f e).bind fun x e1 => .ok (.dat x.1) e1 := rfl
@[simp] theorem F26c3_t (call : Nat → List EV.Sl → EV.FR) (e : EV.Ev) : (EV.evR G call F26c3).t e = ((EV.evR G call F26c3).f e).bind fun x e1 => EV.R.of (EV.truD x.1) e1 := rfl
@[simp] theorem F26c3_i (call : Nat → List EV.Sl → EV.FR) (e : EV.Ev) : (EV.evR G call F26c3).i e = ((EV.evR G call F26c3).f e).bind fun x e1 => EV.R.of (EV.itemsD x.1) e1 := rfl
@[simp] theorem F26c4_b (call : Nat → List EV.Sl → EV.FR) (e : EV.Ev) : (EV.evR G call F26c4).b e = ((EV.evR G call F26c4).f e).bind fun x e1 => .ok (.dat x.1) e1 := rfl
@[simp] theorem F26c4_t (call : Nat → List EV.Sl → EV.FR) (e : EV.Ev) : (EV.evR G call F26c4).t e = ((EV.evR G call F26c4).f e).bind fun x e1 => EV.R.of (EV.truD x.1) e1 := rfl
@[simp] theorem F26c4_i (call : Nat → List EV.Sl → EV.FR) (e : EV.Ev) : (EV.evR G call F26c4).i e = ((EV.evR G call F26c4).f e).bind fun x e1 => EV.R.of (EV.itemsD x.1) e1 := rfl
@[simp] theorem F26c5_b (call : Nat → List EV.Sl → EV.FR) (e : EV.Ev) : (EV.evR G call F26c5).b e = ((EV.evR G call F26c5).f e).bind fun x e1 => .ok (.dat x.1) e1 := rfl
@[simp] theorem F26c5_t (call : Nat → List EV.Sl → EV.FR) (e : EV.Ev) : (EV.evR G call F26c5).t e = ((EV.evR G call F26c5).f e).bind fun x e1 => EV.R.of (EV.truD x.1) e1 := rfl
@[simp] theorem F26c5_i (call : Nat → List EV.Sl → EV.FR) (e : EV.Ev) : (EV.evR G call F26c5).i e = ((EV.evR G call F26c5).f e).bind fun x e1 => EV.R.of (EV.itemsD x.1) e1 := rfl
@[simp] theorem F26c6_b (call : Nat → List EV.Sl → EV.FR) (e : EV.Ev) : (EV.evR G call F26c6).b e = ((EV.evR G call F26c6).f e).bind fun x e1 => .ok (.dat x.1) e1 := rfl
@[simp] theorem F26c6_t (call : Nat → List EV.Sl → EV.FR) (e : EV.Ev) : (EV.evR G call F26c6).t e = ((EV.evR G call F26c6).f e).bind fun x e1 => EV.R.of (EV.truD x.1) e1 := rfl
@[simp] theorem F26c6_i (call : Nat → List EV.Sl → EV.FR) (e : EV.Ev) : (EV.evR G call F26c6).i e = ((EV.evR G call F26c6).f e).bind fun x e1 => EV.R.of (EV.itemsD x.1) e1 := rfl
@[simp] theorem glo0_at : G.glos[0]? = some (PySem.Str.ofString "MOST_WEIGHT", EV.D.int 1000) := rfl
end K19
namespace K19
open PySem EV
def wt (W : List Nat) (k : Nat) : Nat := W.getD k 0
def tb (p k : Nat) : Bool := decide (p / 2 ^ k % 2 = 1)
/-- the sum of the weights of p, below i -/
def sm (W : List Nat) (i p : Nat) : Nat := (((List.range i).filter (tb p)).map (wt W)).sum
def sumsL (W : List Nat) (i : Nat) : List Nat := (List.range (2 ^ i)).map (sm W i)
theorem sm_succ (W : List Nat) (i p : Nat) : sm W (i + 1) p = sm W i p + if tb p i = true then wt W i else 0 := by
  unfold sm
  rw [List.range_succ, List.filter_append, List.map_append, List.sum_append]
  congr 1
  cases h : tb p i <;> simp [h]
theorem tb_add (p i k : Nat) (h : k < i) : tb (p + 2 ^ i) k = tb p k := by
  unfold tb
  obtain ⟨d, rfl⟩ : ∃ d, i = k + 1 + d := ⟨i - (k + 1), by omega⟩
  have e2 : 2 ^ (k + 1 + d) = 2 ^ k * (2 * 2 ^ d) := by rw [Nat.pow_add, Nat.pow_succ, Nat.mul_assoc]
  rw [e2, Nat.add_mul_div_left _ _ (Nat.pow_pos (by decide))]
  have : (p / 2 ^ k + 2 * 2 ^ d) % 2 = p / 2 ^ k % 2 := by omega
  rw [this]
theorem sm_low (W : List Nat) (i p : Nat) : sm W i (p + 2 ^ i) = sm W i p := by
  unfold sm
  congr 2
  refine List.filter_congr fun k hk => ?_
  exact tb_add p i k (by simpa using hk)
theorem sums_succ (W : List Nat) (i : Nat) : sumsL W (i + 1) = sumsL W i ++ (sumsL W i).map (· + wt W i) := by
  unfold sumsL
  rw [Nat.pow_succ, Nat.mul_two, List.range_add, List.map_append, List.map_map, List.map_map]
  congr 1
  · refine List.map_congr_left fun p hp => ?_
    have hp : p < 2 ^ i := by simpa using hp
    have : tb p i = false := by
      unfold tb
      rw [Nat.div_eq_of_lt hp]
      rfl
    rw [sm_succ, this]
    simp
  · refine List.map_congr_left fun p hp => ?_
    have hp : p < 2 ^ i := by simpa using hp
    have : tb (p + 2 ^ i) i = true := by
      unfold tb
      rw [Nat.add_div_right _ (Nat.pow_pos (by decide)), Nat.div_eq_of_lt hp]
      rfl
    show sm W (i + 1) (2 ^ i + p) = sm W i p + wt W i
    rw [Nat.add_comm (2 ^ i) p, sm_succ, sm_low, this, if_pos rfl]
theorem sums_len (W : List Nat) (i : Nat) : (sumsL W i).length = 2 ^ i := by
  unfold sumsL
  simp
theorem pow10 {i : Nat} (h : i ≤ 10) : 2 ^ i ≤ 1024 := Nat.pow_le_pow_right (n := 2) (by decide) h
section
variable (call : Nat → List Sl → FR)
theorem c6 (W l : List Nat) (w : Nat) (hl : l.length ≤ 1024) (s1 s3 : Sl) (h1 : s1 = .ow (rowsD l) ∨ s1 = .sh (rowsD l)) : (evR G call F6c0).f [.sh (rowsD W), s1, .sh (nD w), s3] = .ok (rowsD (l.map (· + w)), true) [.sh (rowsD W), .sh (rowsD l), .sh (nD w), s3] := by
  rw [← rows_map]
  refine comp_all l nD (fun a => nD (a + w)) (e1 := [.sh (rowsD W), .sh (rowsD l), .sh (nD w), s3]) ?_ (by omega) (fun a _ => ⟨false, by simp [exR, evR, lineOk, sizeLine_eq, ofX, ofF, noR, R.out, R.bind, R.of, with1, with2, withs, Bor.res, Bor.frz, ress, frzs, bl2, dat, Sl.get?, Sl.frz, mkSl, Out.res, Res.put, mkArgs, ioAt, doCall, putIos, nd0, nd1, ndl, ndc, nAdd, nSub, nMul, nDiv, nMod, nShl, nShr, nAnd, nXor, nPow, sAdd, lAdd, rAdd, tAdd, lMul, sMul, cEqN, cEqS, cEqB, cNeN, cNeS, cNeB, cLt, cLe, cGt, cGe, cIs, cIsN, isNonN, isNonS, isNonL, isNonR, isNonT, isNonB, isNon0, inS, ninS, tN, tB, tL, tT, tR, t0, bLenL, bLenT, bLenR, bLenS, bIntN, bMin, bMax, bSum, bLstL, bLstT, bTupL, bTupT, ixL, ixT, ixR, ixS, isiN, isiR, flatN, flatR, mutN, mutR, itR, itL, itT, itS, cNilR, cNilN, cNilL, cNilM, meTyJ, inR, ninR, flat0, flatB, flatI, flatS, flatF, flatL, flatT, flatD, mut0, mutB, mutI, mutS, mutF, mutL, mutT, mutD, isi0, isiB, isiI, isiS, isiL, isiT, isiDc, muOk, muTyR, muTyL, muAR, muAL, rMul, setR, bAbs]⟩)
  rcases h1 with rfl | rfl <;> rfl
end
theorem sums_ok (k : Nat) (W : List Nat) (hn : W.length ≤ 10) (h : 1 ≤ k) : (fnEval G k 6 [.sh (rowsD W)]).res = .ok (rowsD (sumsL W W.length)) true ∨ (fnEval G k 6 [.sh (rowsD W)]).res = .ok (rowsD (sumsL W W.length)) false := by
  obtain ⟨k, rfl⟩ : ∃ j, k = j + 1 := ⟨k - 1, by omega⟩
  rw [fn_at k [.sh (rowsD W)] [.sh (rowsD W), .no, .no, .no] (show G.fns[6]? = some f6 from rfl) rfl rfl]
  obtain ⟨e', k1, s1, s2, s3, k2, k3⟩ := for_thru (tg := .nm 2) (body := (exR G (fnEval G k) [] F6b0).x)
    (fun i e => ∃ s1 s2 s3, (s1 = .ow (rowsD (sumsL W i)) ∨ s1 = .sh (rowsD (sumsL W i))) ∧ e = [.sh (rowsD W), s1, s2, s3]) (W.map nD) 0 [.sh (rowsD W), .ow (rowsD [0]), .no, .no] ⟨_, _, _, .inl rfl, rfl⟩ fun j d e hj ⟨s1, s2, s3, hs1, hx⟩ => by
      subst hx
      have hlt : j < W.length := by
        have := (List.getElem?_eq_some_iff.mp hj).1
        simpa using this
      have hd : d = nD (wt W j) := by
        rw [List.getElem?_map, List.getElem?_eq_getElem hlt] at hj
        unfold wt
        rw [List.getD_eq_getElem?_getD, List.getElem?_eq_getElem hlt]
        simpa using hj.symm
      subst hd
      rw [Nat.zero_add] at hs1 ⊢
      have hp := pow10 (show j ≤ 10 by omega)
      have hl := sums_len W j
      have c := c6 (fnEval G k) W (sumsL W j) (wt W j) (by omega) s1 s3 hs1
      have ad := rAdd (a := sumsL W j) (b := (sumsL W j).map (· + wt W j)) (by simp [hl]; omega)
      rw [sums_succ]
      refine ⟨[.sh (rowsD W), s1, .sh (nD (wt W j)), s3], [.sh (rowsD W), .ow (rowsD (sumsL W j ++ (sumsL W j).map (· + wt W j))), .sh (nD (wt W j)), s3], rfl, .inl ?_, _, _, _, .inl rfl, rfl⟩
      unfold F6b0
      rcases hs1 with rfl | rfl <;> simp [c, ad, exR, evR, lineOk, sizeLine_eq, ofX, ofF, noR, R.out, R.bind, R.of, with1, with2, withs, Bor.res, Bor.frz, ress, frzs, bl2, dat, Sl.get?, Sl.frz, mkSl, Out.res, Res.put, mkArgs, ioAt, doCall, putIos, nd0, nd1, ndl, ndc, nAdd, nSub, nMul, nDiv, nMod, nShl, nShr, nAnd, nXor, nPow, sAdd, lAdd, rAdd, tAdd, lMul, sMul, cEqN, cEqS, cEqB, cNeN, cNeS, cNeB, cLt, cLe, cGt, cGe, cIs, cIsN, isNonN, isNonS, isNonL, isNonR, isNonT, isNonB, isNon0, inS, ninS, tN, tB, tL, tT, tR, t0, bLenL, bLenT, bLenR, bLenS, bIntN, bMin, bMax, bSum, bLstL, bLstT, bTupL, bTupT, ixL, ixT, ixR, ixS, isiN, isiR, flatN, flatR, mutN, mutR, itR, itL, itT, itS, cNilR, cNilN, cNilL, cNilM, meTyJ, inR, ninR, flat0, flatB, flatI, flatS, flatF, flatL, flatT, flatD, mut0, mutB, mutI, mutS, mutF, mutL, mutT, mutD, isi0, isiB, isiI, isiS, isiL, isiT, isiDc, muOk, muTyR, muTyL, muAR, muAL, rMul, setR, bAbs]
  subst k3
  rw [List.length_map, Nat.zero_add] at k2
  show ((exR G (fnEval G k) [] (.seq (.asg 1 (.lst (.cons (.lit (.int 0)) .nil))) (.seq F6l0 (.seq (.ret (.var 1)) .skip)))).x _).res = _ ∨ ((exR G (fnEval G k) [] (.seq (.asg 1 (.lst (.cons (.lit (.int 0)) .nil))) (.seq F6l0 (.seq (.ret (.var 1)) .skip)))).x _).res = _
  rw [seq_nx (asg_nx (x := (rowsD [0], true)) (e1 := [.sh (rowsD W), .no, .no, .no]) rfl rfl)]
  have k1' : (exR G (fnEval G k) [] F6l0).x [.sh (rowsD W), .ow (rowsD [0]), .no, .no] = .nx [.sh (rowsD W), s1, s2, s3] := for_nx rfl rfl k1
  show ((exR G (fnEval G k) [] (.seq F6l0 (.seq (.ret (.var 1)) .skip))).x [.sh (rowsD W), .ow (rowsD [0]), .no, .no]).res = _ ∨ ((exR G (fnEval G k) [] (.seq F6l0 (.seq (.ret (.var 1)) .skip))).x [.sh (rowsD W), .ow (rowsD [0]), .no, .no]).res = _
  rw [seq_nx k1']
  rcases k2 with rfl | rfl
  · left
    rw [seq_rt (ret_ow (d := rowsD (sumsL W W.length)) rfl rfl)]
    rfl
  · right
    rw [seq_rt (ret_sh (d := rowsD (sumsL W W.length)) rfl rfl)]
    rfl
/-! votes that are votes -/
structure Vote (W : List Nat) (b : Nat) : Prop where
  l1 : 1 ≤ W.length
  l2 : W.length ≤ 5
  le : ∀ w ∈ W, w ≤ 1000
  b1 : 1 ≤ b
  b2 : b ≤ 10000
theorem num_ok (k : Nat) (a b c : Nat) (h : 1 ≤ k) : (fnEval G k 0 [.sh (nD a), .sh (nD b), .sh (nD c)]).res = .ok (.bl (decide (b ≤ a) && decide (a ≤ c))) false := by
  have := isnum_ok (show G.fns[0]? = some ⟨"is_number", 3, ["value", "low", "high"], [], bIsNum⟩ from rfl) rfl k (nD a) (b : Int) (c : Int) rfl h
  have e : isNum (nD a) (b : Int) (c : Int) = (decide (b ≤ a) && decide (a ≤ c)) := by
    show (decide ((b : Int) ≤ (a : Int)) && decide ((a : Int) ≤ (c : Int))) = _
    congr 1 <;> exact decide_eq_decide.mpr (by omega)
  rw [e] at this
  exact this
theorem chk_ok (k : Nat) (a b c : Nat) (h : 2 ≤ k) (h1 : b ≤ a) (h2 : a ≤ c) : (fnEval G k 1 [.sh (nD a), .sh (nD b), .sh (nD c)]).res = .ok .non false := by
  have := checknum_ok (show G.fns[1]? = some ⟨"check_number", 3, ["value", "low", "high"], [], bCheckNum 0 1⟩ from rfl) rfl (show G.fns[0]? = some ⟨"is_number", 3, ["value", "low", "high"], [], bIsNum⟩ from rfl) rfl k (nD a) (b : Int) (c : Int) rfl h
  have e : isNum (nD a) (b : Int) (c : Int) = true := by
    show (decide ((b : Int) ≤ (a : Int)) && decide ((a : Int) ≤ (c : Int))) = _
    simp [h1, h2]
  rw [if_pos e] at this
  exact this
theorem votes_ok (k : Nat) {W : List Nat} {b : Nat} (v : Vote W b) (h : 3 ≤ k) : (fnEval G k 7 [.sh (rowsD W), .sh (nD b)]).res = .ok .non false := by
  obtain ⟨k, rfl⟩ : ∃ j, k = j + 1 := ⟨k - 1, by omega⟩
  rw [fn_at k [.sh (rowsD W), .sh (nD b)] [.sh (rowsD W), .sh (nD b), .no] (show G.fns[7]? = some f7 from rfl) rfl rfl]
  have c : (evR G (fnEval G k) F7c0).f [.sh (rowsD W), .sh (nD b), .no] = .ok (rowsD [], true) [.sh (rowsD W), .sh (nD b), .no] := by
    have e := comp_det (G := G) (call := fnEval G k) (el := .var 2) (it := .var 0) (c := .not (.call 0 (.cons (.var 2) (.cons (.lit (.int 0)) (.cons (.glo 0) .nil))))) (v := 2) (s := "one") (e := [.sh (rowsD W), .sh (nD b), .no]) (e1 := [.sh (rowsD W), .sh (nD b), .no]) W nD (fun _ => false) nD rfl (by have := v.l2; omega) (fun w hw => by
      have i := num_ok k w 0 1000 (by omega)
      have le := v.le w hw
      simp [i, le, exR, evR, lineOk, sizeLine_eq, ofX, ofF, noR, R.out, R.bind, R.of, with1, with2, withs, Bor.res, Bor.frz, ress, frzs, bl2, dat, Sl.get?, Sl.frz, mkSl, Out.res, Res.put, mkArgs, ioAt, doCall, putIos, nd0, nd1, ndl, ndc, nAdd, nSub, nMul, nDiv, nMod, nShl, nShr, nAnd, nXor, nPow, sAdd, lAdd, rAdd, tAdd, lMul, sMul, cEqN, cEqS, cEqB, cNeN, cNeS, cNeB, cLt, cLe, cGt, cGe, cIs, cIsN, isNonN, isNonS, isNonL, isNonR, isNonT, isNonB, isNon0, inS, ninS, tN, tB, tL, tT, tR, t0, bLenL, bLenT, bLenR, bLenS, bIntN, bMin, bMax, bSum, bLstL, bLstT, bTupL, bTupT, ixL, ixT, ixR, ixS, isiN, isiR, flatN, flatR, mutN, mutR, itR, itL, itT, itS, cNilR, cNilN, cNilL, cNilM, meTyJ, inR, ninR, flat0, flatB, flatI, flatS, flatF, flatL, flatT, flatD, mut0, mutB, mutI, mutS, mutF, mutL, mutT, mutD, isi0, isiB, isiI, isiS, isiL, isiT, isiDc, muOk, muTyR, muTyL, muAR, muAL, rMul, setR, bAbs]) (fun w _ hw => by cases hw)
    have hf : W.filter (fun _ => false) = [] := by simp
    rw [hf] at e
    exact e
  have cb := chk_ok k b 1 10000 (by omega) v.b1 v.b2
  have l1 := v.l1
  have l2 := v.l2
  have l3 : W.length ≤ 10 := by omega
  simp [c, cb, l1, l3, exR, evR, lineOk, sizeLine_eq, ofX, ofF, noR, R.out, R.bind, R.of, with1, with2, withs, Bor.res, Bor.frz, ress, frzs, bl2, dat, Sl.get?, Sl.frz, mkSl, Out.res, Res.put, mkArgs, ioAt, doCall, putIos, nd0, nd1, ndl, ndc, nAdd, nSub, nMul, nDiv, nMod, nShl, nShr, nAnd, nXor, nPow, sAdd, lAdd, rAdd, tAdd, lMul, sMul, cEqN, cEqS, cEqB, cNeN, cNeS, cNeB, cLt, cLe, cGt, cGe, cIs, cIsN, isNonN, isNonS, isNonL, isNonR, isNonT, isNonB, isNon0, inS, ninS, tN, tB, tL, tT, tR, t0, bLenL, bLenT, bLenR, bLenS, bIntN, bMin, bMax, bSum, bLstL, bLstT, bTupL, bTupT, ixL, ixT, ixR, ixS, isiN, isiR, flatN, flatR, mutN, mutR, itR, itL, itT, itS, cNilR, cNilN, cNilL, cNilM, meTyJ, inR, ninR, flat0, flatB, flatI, flatS, flatF, flatL, flatT, flatD, mut0, mutB, mutI, mutS, mutF, mutL, mutT, mutD, isi0, isiB, isiI, isiS, isiL, isiT, isiDc, muOk, muTyR, muTyL, muAR, muAL, rMul, setR, bAbs]
theorem bit_ok (k p j : Nat) (h : 1 ≤ k) : (fnEval G k 4 [.sh (nD p), .sh (nD j)]).res = .ok (nD (p / 2 ^ j % 2)) false := bitf_ok (show G.fns[4]? = some ⟨"bit", 2, ["p", "k"], [], bBitF⟩ from rfl) rfl k p j h
theorem lbit_ok (k p j : Nat) (h : 1 ≤ k) : (fnEval G k 22 [.sh (nD p), .sh (nD j)]).res = .ok (nD (p / 2 ^ j % 2)) false := bitf_ok (show G.fns[22]? = some ⟨"_law_bit", 2, ["p", "k"], [], bBitF⟩ from rfl) rfl k p j h
theorem pone_ok (k p : Nat) (hp : p < 1000000) (h : 1 ≤ k) : (fnEval G k 5 [.sh (nD p)]).res = .ok (nD (pcN p)) false := ones_ok (.inl rfl) (show G.fns[5]? = some ⟨"ones", 1, ["p", "many"], [], bOnesA⟩ from rfl) rfl k p hp h
def ownP (W : List Nat) (b k p : Nat) : Bool := decide (p / 2 ^ k % 2 = 1) && (decide (b ≤ sm W W.length p) && decide (sm W W.length p - wt W k < b))
def own (W : List Nat) (b k : Nat) : List Nat := (List.range (2 ^ W.length)).filter (ownP W b k)
def sz (W : List Nat) (b k : Nat) : List Nat := (own W b k).map pcN
theorem wt_le {W : List Nat} {n k p : Nat} (hk : k < n) (h : p / 2 ^ k % 2 = 1) : wt W k ≤ sm W n p := by
  unfold sm
  have hm : k ∈ (List.range n).filter (tb p) := List.mem_filter.mpr ⟨by simpa using hk, decide_eq_true h⟩
  have : ∀ l : List Nat, k ∈ l → wt W k ≤ (l.map (wt W)).sum := fun l => by
    induction l with
    | nil => intro h; cases h
    | cons a l ih =>
      intro h
      rw [List.map_cons, List.sum_cons]
      rcases List.mem_cons.mp h with rfl | h
      · omega
      · have := ih h
        omega
  exact this _ hm
theorem sizes_ok (k : Nat) {W : List Nat} {b : Nat} (v : Vote W b) (j : Nat) (hj : j < W.length) (h : 2 ≤ k) : (fnEval G k 8 [.sh (rowsD W), .sh (nD b), .sh (nD j)]).res = .ok (rowsD (sz W b j)) true := by
  obtain ⟨k, rfl⟩ : ∃ j, k = j + 1 := ⟨k - 1, by omega⟩
  rw [fn_at k [.sh (rowsD W), .sh (nD b), .sh (nD j)] [.sh (rowsD W), .sh (nD b), .sh (nD j), .no, .no, .no] (show G.fns[8]? = some f8 from rfl) rfl rfl]
  have l2 := v.l2
  have hp := pow10 (show W.length ≤ 10 by omega)
  have hl := sums_len W W.length
  have body : ∀ s3, (s3 = .ow (rowsD (sumsL W W.length)) ∨ s3 = .sh (rowsD (sumsL W W.length))) → ((exR G (fnEval G k) [] (.seq (.asg 4 F8c0) (.seq (.ret F8c1) .skip))).x [.sh (rowsD W), .sh (nD b), .sh (nD j), s3, .no, .no]).res = .ok (rowsD (sz W b j)) true := fun s3 hs3 => by
    have c0 : (evR G (fnEval G k) F8c0).f [.sh (rowsD W), .sh (nD b), .sh (nD j), s3, .no, .no] = .ok (rowsD (own W b j), true) [.sh (rowsD W), .sh (nD b), .sh (nD j), s3, .no, .no] := by
      refine comp_det (List.range (2 ^ W.length)) nD (ownP W b j) nD (rng1_i (fr := false) (by rcases hs3 with rfl | rfl <;> simp [hl, exR, evR, lineOk, sizeLine_eq, ofX, ofF, noR, R.out, R.bind, R.of, with1, with2, withs, Bor.res, Bor.frz, ress, frzs, bl2, dat, Sl.get?, Sl.frz, mkSl, Out.res, Res.put, mkArgs, ioAt, doCall, putIos, nd0, nd1, ndl, ndc, nAdd, nSub, nMul, nDiv, nMod, nShl, nShr, nAnd, nXor, nPow, sAdd, lAdd, rAdd, tAdd, lMul, sMul, cEqN, cEqS, cEqB, cNeN, cNeS, cNeB, cLt, cLe, cGt, cGe, cIs, cIsN, isNonN, isNonS, isNonL, isNonR, isNonT, isNonB, isNon0, inS, ninS, tN, tB, tL, tT, tR, t0, bLenL, bLenT, bLenR, bLenS, bIntN, bMin, bMax, bSum, bLstL, bLstT, bTupL, bTupT, ixL, ixT, ixR, ixS, isiN, isiR, flatN, flatR, mutN, mutR, itR, itL, itT, itS, cNilR, cNilN, cNilL, cNilM, meTyJ, inR, ninR, flat0, flatB, flatI, flatS, flatF, flatL, flatT, flatD, mut0, mutB, mutI, mutS, mutF, mutL, mutT, mutD, isi0, isiB, isiI, isiS, isiL, isiT, isiDc, muOk, muTyR, muTyL, muAR, muAL, rMul, setR, bAbs]) (by omega)) (by simp; omega) (fun p hp2 => ?_) (fun p _ _ => ⟨false, rfl⟩)
      have hp2 : p < 2 ^ W.length := by simpa using hp2
      have bo := bit_ok k p j (by omega)
      have i1 := ixR (l := sumsL W W.length) (j := p) (by omega)
      have i2 := ixR (l := W) (j := j) hj
      have e1 : (sumsL W W.length).getD p 0 = sm W W.length p := by
        unfold sumsL
        rw [List.getD_eq_getElem?_getD, List.getElem?_map, List.getElem?_range hp2]
        rfl
      rw [e1] at i1
      rw [show W.getD j 0 = wt W j from rfl] at i2
      have le := wt_le (W := W) (p := p) hj
      unfold ownP
      generalize sm W W.length p = s at i1 le ⊢
      generalize wt W j = w at i2 le ⊢
      by_cases hb : p / 2 ^ j % 2 = 1
      · have sb := nSub (le hb)
        rw [hb] at bo
        by_cases hs : b ≤ s
        · rcases hs3 with rfl | rfl <;> simp [bo, i1, i2, sb, hb, hs, exR, evR, lineOk, sizeLine_eq, ofX, ofF, noR, R.out, R.bind, R.of, with1, with2, withs, Bor.res, Bor.frz, ress, frzs, bl2, dat, Sl.get?, Sl.frz, mkSl, Out.res, Res.put, mkArgs, ioAt, doCall, putIos, nd0, nd1, ndl, ndc, nAdd, nSub, nMul, nDiv, nMod, nShl, nShr, nAnd, nXor, nPow, sAdd, lAdd, rAdd, tAdd, lMul, sMul, cEqN, cEqS, cEqB, cNeN, cNeS, cNeB, cLt, cLe, cGt, cGe, cIs, cIsN, isNonN, isNonS, isNonL, isNonR, isNonT, isNonB, isNon0, inS, ninS, tN, tB, tL, tT, tR, t0, bLenL, bLenT, bLenR, bLenS, bIntN, bMin, bMax, bSum, bLstL, bLstT, bTupL, bTupT, ixL, ixT, ixR, ixS, isiN, isiR, flatN, flatR, mutN, mutR, itR, itL, itT, itS, cNilR, cNilN, cNilL, cNilM, meTyJ, inR, ninR, flat0, flatB, flatI, flatS, flatF, flatL, flatT, flatD, mut0, mutB, mutI, mutS, mutF, mutL, mutT, mutD, isi0, isiB, isiI, isiS, isiL, isiT, isiDc, muOk, muTyR, muTyL, muAR, muAL, rMul, setR, bAbs]
        · rcases hs3 with rfl | rfl <;> simp [bo, i1, i2, hb, hs, exR, evR, lineOk, sizeLine_eq, ofX, ofF, noR, R.out, R.bind, R.of, with1, with2, withs, Bor.res, Bor.frz, ress, frzs, bl2, dat, Sl.get?, Sl.frz, mkSl, Out.res, Res.put, mkArgs, ioAt, doCall, putIos, nd0, nd1, ndl, ndc, nAdd, nSub, nMul, nDiv, nMod, nShl, nShr, nAnd, nXor, nPow, sAdd, lAdd, rAdd, tAdd, lMul, sMul, cEqN, cEqS, cEqB, cNeN, cNeS, cNeB, cLt, cLe, cGt, cGe, cIs, cIsN, isNonN, isNonS, isNonL, isNonR, isNonT, isNonB, isNon0, inS, ninS, tN, tB, tL, tT, tR, t0, bLenL, bLenT, bLenR, bLenS, bIntN, bMin, bMax, bSum, bLstL, bLstT, bTupL, bTupT, ixL, ixT, ixR, ixS, isiN, isiR, flatN, flatR, mutN, mutR, itR, itL, itT, itS, cNilR, cNilN, cNilL, cNilM, meTyJ, inR, ninR, flat0, flatB, flatI, flatS, flatF, flatL, flatT, flatD, mut0, mutB, mutI, mutS, mutF, mutL, mutT, mutD, isi0, isiB, isiI, isiS, isiL, isiT, isiDc, muOk, muTyR, muTyL, muAR, muAL, rMul, setR, bAbs]
      · rcases hs3 with rfl | rfl <;> simp [bo, hb, exR, evR, lineOk, sizeLine_eq, ofX, ofF, noR, R.out, R.bind, R.of, with1, with2, withs, Bor.res, Bor.frz, ress, frzs, bl2, dat, Sl.get?, Sl.frz, mkSl, Out.res, Res.put, mkArgs, ioAt, doCall, putIos, nd0, nd1, ndl, ndc, nAdd, nSub, nMul, nDiv, nMod, nShl, nShr, nAnd, nXor, nPow, sAdd, lAdd, rAdd, tAdd, lMul, sMul, cEqN, cEqS, cEqB, cNeN, cNeS, cNeB, cLt, cLe, cGt, cGe, cIs, cIsN, isNonN, isNonS, isNonL, isNonR, isNonT, isNonB, isNon0, inS, ninS, tN, tB, tL, tT, tR, t0, bLenL, bLenT, bLenR, bLenS, bIntN, bMin, bMax, bSum, bLstL, bLstT, bTupL, bTupT, ixL, ixT, ixR, ixS, isiN, isiR, flatN, flatR, mutN, mutR, itR, itL, itT, itS, cNilR, cNilN, cNilL, cNilM, meTyJ, inR, ninR, flat0, flatB, flatI, flatS, flatF, flatL, flatT, flatD, mut0, mutB, mutI, mutS, mutF, mutL, mutT, mutD, isi0, isiB, isiI, isiS, isiL, isiT, isiDc, muOk, muTyR, muTyL, muAR, muAL, rMul, setR, bAbs]
    refine go_asg (Is _) c0 rfl ?_
    have c1 : (evR G (fnEval G k) F8c1).f [.sh (rowsD W), .sh (nD b), .sh (nD j), s3, .ow (rowsD (own W b j)), .no] = .ok (rowsD (sz W b j), true) [.sh (rowsD W), .sh (nD b), .sh (nD j), s3, .sh (rowsD (own W b j)), .no] := by
      unfold sz
      rw [← rows_map]
      have ol : (own W b j).length ≤ 2 ^ W.length := by
        unfold own
        exact Nat.le_trans (List.length_filter_le _ _) (by simp)
      refine comp_all (own W b j) nD (fun p => nD (pcN p)) (by rfl) (by omega) (fun p hp2 => ⟨false, ?_⟩)
      have hp2 : p < 2 ^ W.length := by
        have := (List.mem_filter.mp hp2).1
        simpa using this
      have po := pone_ok k p (by omega) (by omega)
      simp [po, exR, evR, lineOk, sizeLine_eq, ofX, ofF, noR, R.out, R.bind, R.of, with1, with2, withs, Bor.res, Bor.frz, ress, frzs, bl2, dat, Sl.get?, Sl.frz, mkSl, Out.res, Res.put, mkArgs, ioAt, doCall, putIos, nd0, nd1, ndl, ndc, nAdd, nSub, nMul, nDiv, nMod, nShl, nShr, nAnd, nXor, nPow, sAdd, lAdd, rAdd, tAdd, lMul, sMul, cEqN, cEqS, cEqB, cNeN, cNeS, cNeB, cLt, cLe, cGt, cGe, cIs, cIsN, isNonN, isNonS, isNonL, isNonR, isNonT, isNonB, isNon0, inS, ninS, tN, tB, tL, tT, tR, t0, bLenL, bLenT, bLenR, bLenS, bIntN, bMin, bMax, bSum, bLstL, bLstT, bTupL, bTupT, ixL, ixT, ixR, ixS, isiN, isiR, flatN, flatR, mutN, mutR, itR, itL, itT, itS, cNilR, cNilN, cNilL, cNilM, meTyJ, inR, ninR, flat0, flatB, flatI, flatS, flatF, flatL, flatT, flatD, mut0, mutB, mutI, mutS, mutF, mutL, mutT, mutD, isi0, isiB, isiI, isiS, isiL, isiT, isiDc, muOk, muTyR, muTyL, muAR, muAL, rMul, setR, bAbs]
    refine go_ret (Is _) (by intro i h; cases h) c1 ?_
    rfl
  rcases sums_ok k W (by omega) (by omega) with so | so
  · refine go_asg (Is _) (x := (rowsD (sumsL W W.length), true)) (e1 := [.sh (rowsD W), .sh (nD b), .sh (nD j), .no, .no, .no]) (by simp [so, exR, evR, lineOk, sizeLine_eq, ofX, ofF, noR, R.out, R.bind, R.of, with1, with2, withs, Bor.res, Bor.frz, ress, frzs, bl2, dat, Sl.get?, Sl.frz, mkSl, Out.res, Res.put, mkArgs, ioAt, doCall, putIos, nd0, nd1, ndl, ndc, nAdd, nSub, nMul, nDiv, nMod, nShl, nShr, nAnd, nXor, nPow, sAdd, lAdd, rAdd, tAdd, lMul, sMul, cEqN, cEqS, cEqB, cNeN, cNeS, cNeB, cLt, cLe, cGt, cGe, cIs, cIsN, isNonN, isNonS, isNonL, isNonR, isNonT, isNonB, isNon0, inS, ninS, tN, tB, tL, tT, tR, t0, bLenL, bLenT, bLenR, bLenS, bIntN, bMin, bMax, bSum, bLstL, bLstT, bTupL, bTupT, ixL, ixT, ixR, ixS, isiN, isiR, flatN, flatR, mutN, mutR, itR, itL, itT, itS, cNilR, cNilN, cNilL, cNilM, meTyJ, inR, ninR, flat0, flatB, flatI, flatS, flatF, flatL, flatT, flatD, mut0, mutB, mutI, mutS, mutF, mutL, mutT, mutD, isi0, isiB, isiI, isiS, isiL, isiT, isiDc, muOk, muTyR, muTyL, muAR, muAL, rMul, setR, bAbs]) rfl ?_
    exact body _ (.inl rfl)
  · refine go_asg (Is _) (x := (rowsD (sumsL W W.length), false)) (e1 := [.sh (rowsD W), .sh (nD b), .sh (nD j), .no, .no, .no]) (by simp [so, exR, evR, lineOk, sizeLine_eq, ofX, ofF, noR, R.out, R.bind, R.of, with1, with2, withs, Bor.res, Bor.frz, ress, frzs, bl2, dat, Sl.get?, Sl.frz, mkSl, Out.res, Res.put, mkArgs, ioAt, doCall, putIos, nd0, nd1, ndl, ndc, nAdd, nSub, nMul, nDiv, nMod, nShl, nShr, nAnd, nXor, nPow, sAdd, lAdd, rAdd, tAdd, lMul, sMul, cEqN, cEqS, cEqB, cNeN, cNeS, cNeB, cLt, cLe, cGt, cGe, cIs, cIsN, isNonN, isNonS, isNonL, isNonR, isNonT, isNonB, isNon0, inS, ninS, tN, tB, tL, tT, tR, t0, bLenL, bLenT, bLenR, bLenS, bIntN, bMin, bMax, bSum, bLstL, bLstT, bTupL, bTupT, ixL, ixT, ixR, ixS, isiN, isiR, flatN, flatR, mutN, mutR, itR, itL, itT, itS, cNilR, cNilN, cNilL, cNilM, meTyJ, inR, ninR, flat0, flatB, flatI, flatS, flatF, flatL, flatT, flatD, mut0, mutB, mutI, mutS, mutF, mutL, mutT, mutD, isi0, isiB, isiI, isiS, isiL, isiT, isiDc, muOk, muTyR, muTyL, muAR, muAL, rMul, setR, bAbs]) rfl ?_
    exact body _ (.inr rfl)
end K19
namespace K19
open PySem EV
def fct : Nat → Nat
  | 0 => 1
  | n + 1 => fct n * (n + 1)
theorem swings_ok (k : Nat) {W : List Nat} {b : Nat} (v : Vote W b) (h : 4 ≤ k) : (fnEval G k 9 [.sh (rowsD W), .sh (nD b)]).res = .ok (rowsD ((List.range W.length).map fun j => (sz W b j).length)) true := by
  obtain ⟨k, rfl⟩ : ∃ j, k = j + 1 := ⟨k - 1, by omega⟩
  rw [fn_at k [.sh (rowsD W), .sh (nD b)] [.sh (rowsD W), .sh (nD b), .no] (show G.fns[9]? = some f9 from rfl) rfl rfl]
  have vo := votes_ok k v (by omega)
  have l2 := v.l2
  have c : (evR G (fnEval G k) F9c0).f [.sh (rowsD W), .sh (nD b), .no] = .ok (rowsD ((List.range W.length).map fun j => (sz W b j).length), true) [.sh (rowsD W), .sh (nD b), .no] := by
    rw [← rows_map]
    refine comp_all (List.range W.length) nD (fun j => nD (sz W b j).length) (rng1_i (fr := false) (by simp [exR, evR, lineOk, sizeLine_eq, ofX, ofF, noR, R.out, R.bind, R.of, with1, with2, withs, Bor.res, Bor.frz, ress, frzs, bl2, dat, Sl.get?, Sl.frz, mkSl, Out.res, Res.put, mkArgs, ioAt, doCall, putIos, nd0, nd1, ndl, ndc, nAdd, nSub, nMul, nDiv, nMod, nShl, nShr, nAnd, nXor, nPow, sAdd, lAdd, rAdd, tAdd, lMul, sMul, cEqN, cEqS, cEqB, cNeN, cNeS, cNeB, cLt, cLe, cGt, cGe, cIs, cIsN, isNonN, isNonS, isNonL, isNonR, isNonT, isNonB, isNon0, inS, ninS, tN, tB, tL, tT, tR, t0, bLenL, bLenT, bLenR, bLenS, bIntN, bMin, bMax, bSum, bLstL, bLstT, bTupL, bTupT, ixL, ixT, ixR, ixS, isiN, isiR, flatN, flatR, mutN, mutR, itR, itL, itT, itS, cNilR, cNilN, cNilL, cNilM, meTyJ, inR, ninR, flat0, flatB, flatI, flatS, flatF, flatL, flatT, flatD, mut0, mutB, mutI, mutS, mutF, mutL, mutT, mutD, isi0, isiB, isiI, isiS, isiL, isiT, isiDc, muOk, muTyR, muTyL, muAR, muAL, rMul, setR, bAbs]) (by omega)) (by simp; omega) (fun j hj => ⟨false, ?_⟩)
    have so := sizes_ok k v j (by simpa using hj) (by omega)
    simp [so, exR, evR, lineOk, sizeLine_eq, ofX, ofF, noR, R.out, R.bind, R.of, with1, with2, withs, Bor.res, Bor.frz, ress, frzs, bl2, dat, Sl.get?, Sl.frz, mkSl, Out.res, Res.put, mkArgs, ioAt, doCall, putIos, nd0, nd1, ndl, ndc, nAdd, nSub, nMul, nDiv, nMod, nShl, nShr, nAnd, nXor, nPow, sAdd, lAdd, rAdd, tAdd, lMul, sMul, cEqN, cEqS, cEqB, cNeN, cNeS, cNeB, cLt, cLe, cGt, cGe, cIs, cIsN, isNonN, isNonS, isNonL, isNonR, isNonT, isNonB, isNon0, inS, ninS, tN, tB, tL, tT, tR, t0, bLenL, bLenT, bLenR, bLenS, bIntN, bMin, bMax, bSum, bLstL, bLstT, bTupL, bTupT, ixL, ixT, ixR, ixS, isiN, isiR, flatN, flatR, mutN, mutR, itR, itL, itT, itS, cNilR, cNilN, cNilL, cNilM, meTyJ, inR, ninR, flat0, flatB, flatI, flatS, flatF, flatL, flatT, flatD, mut0, mutB, mutI, mutS, mutF, mutL, mutT, mutD, isi0, isiB, isiI, isiS, isiL, isiT, isiDc, muOk, muTyR, muTyL, muAR, muAL, rMul, setR, bAbs]
  refine go_expr (Is _) (x := (.non, false)) (e1 := [.sh (rowsD W), .sh (nD b), .no]) (by simp [vo, exR, evR, lineOk, sizeLine_eq, ofX, ofF, noR, R.out, R.bind, R.of, with1, with2, withs, Bor.res, Bor.frz, ress, frzs, bl2, dat, Sl.get?, Sl.frz, mkSl, Out.res, Res.put, mkArgs, ioAt, doCall, putIos, nd0, nd1, ndl, ndc, nAdd, nSub, nMul, nDiv, nMod, nShl, nShr, nAnd, nXor, nPow, sAdd, lAdd, rAdd, tAdd, lMul, sMul, cEqN, cEqS, cEqB, cNeN, cNeS, cNeB, cLt, cLe, cGt, cGe, cIs, cIsN, isNonN, isNonS, isNonL, isNonR, isNonT, isNonB, isNon0, inS, ninS, tN, tB, tL, tT, tR, t0, bLenL, bLenT, bLenR, bLenS, bIntN, bMin, bMax, bSum, bLstL, bLstT, bTupL, bTupT, ixL, ixT, ixR, ixS, isiN, isiR, flatN, flatR, mutN, mutR, itR, itL, itT, itS, cNilR, cNilN, cNilL, cNilM, meTyJ, inR, ninR, flat0, flatB, flatI, flatS, flatF, flatL, flatT, flatD, mut0, mutB, mutI, mutS, mutF, mutL, mutT, mutD, isi0, isiB, isiI, isiS, isiL, isiT, isiDc, muOk, muTyR, muTyL, muAR, muAL, rMul, setR, bAbs]) ?_
  refine go_ret (Is _) (by intro i h; cases h) c ?_
  rfl
theorem fct_ok (k n : Nat) (hn : n ≤ 1000) (h : 1 ≤ k) : (fnEval G k 10 [.sh (nD n)]).res = .ok (nD (fct n)) false := by
  obtain ⟨k, rfl⟩ : ∃ j, k = j + 1 := ⟨k - 1, by omega⟩
  rw [fn_at k [.sh (nD n)] [.sh (nD n), .no, .no] (show G.fns[10]? = some f10 from rfl) rfl rfl]
  obtain ⟨e', k1, x, k2⟩ := for_thru (tg := .nm 2) (body := (exR G (fnEval G k) [] F10b0).x) (fun i e => ∃ x, e = [.sh (nD n), .sh (nD (fct (i + 1))), x]) ((List.range (n + 1 - 2)).map fun j => nD (2 + j)) 0 [.sh (nD n), .sh (nD 1), .no] ⟨_, rfl⟩ fun j d e hj ⟨x, hx⟩ => by
    subst hx
    have hlt : j < n + 1 - 2 := by
      have := (List.getElem?_eq_some_iff.mp hj).1
      simpa using this
    rw [List.getElem?_map, List.getElem?_range hlt] at hj
    have hd : d = nD (2 + j) := by simpa using hj.symm
    subst hd
    rw [Nat.zero_add]
    have mu := nMul (a := fct (j + 1)) (b := 2 + j) (.inr (by omega))
    refine ⟨[.sh (nD n), .sh (nD (fct (j + 1))), .sh (nD (2 + j))], [.sh (nD n), .sh (nD (fct (j + 1 + 1))), .sh (nD (2 + j))], rfl, .inl ?_, _, rfl⟩
    have e : fct (j + 1 + 1) = fct (j + 1) * (2 + j) := by
      show fct (j + 1) * (j + 1 + 1) = _
      rw [show j + 1 + 1 = 2 + j by omega]
    rw [e]
    unfold F10b0
    simp [mu, exR, evR, lineOk, sizeLine_eq, ofX, ofF, noR, R.out, R.bind, R.of, with1, with2, withs, Bor.res, Bor.frz, ress, frzs, bl2, dat, Sl.get?, Sl.frz, mkSl, Out.res, Res.put, mkArgs, ioAt, doCall, putIos, nd0, nd1, ndl, ndc, nAdd, nSub, nMul, nDiv, nMod, nShl, nShr, nAnd, nXor, nPow, sAdd, lAdd, rAdd, tAdd, lMul, sMul, cEqN, cEqS, cEqB, cNeN, cNeS, cNeB, cLt, cLe, cGt, cGe, cIs, cIsN, isNonN, isNonS, isNonL, isNonR, isNonT, isNonB, isNon0, inS, ninS, tN, tB, tL, tT, tR, t0, bLenL, bLenT, bLenR, bLenS, bIntN, bMin, bMax, bSum, bLstL, bLstT, bTupL, bTupT, ixL, ixT, ixR, ixS, isiN, isiR, flatN, flatR, mutN, mutR, itR, itL, itT, itS, cNilR, cNilN, cNilL, cNilM, meTyJ, inR, ninR, flat0, flatB, flatI, flatS, flatF, flatL, flatT, flatD, mut0, mutB, mutI, mutS, mutF, mutL, mutT, mutD, isi0, isiB, isiI, isiS, isiL, isiT, isiDc, muOk, muTyR, muTyL, muAR, muAL, rMul, setR, bAbs]
  subst k2
  rw [Nat.zero_add, List.length_map, List.length_range] at k1
  refine go_asg (Is _) (x := (nD 1, false)) (e1 := [.sh (nD n), .no, .no]) rfl rfl ?_
  have hi : (evR G (fnEval G k) (.rng2 (.lit (.int 2)) (.bin .Add (.var 0) (.lit (.int 1))))).i [.sh (nD n), .sh (nD 1), .no] = .ok ((List.range (n + 1 - 2)).map fun j => nD (2 + j)) [.sh (nD n), .sh (nD 1), .no] := rng2_i (fr := false) (fr2 := false) (e1 := [.sh (nD n), .sh (nD 1), .no]) rfl (by simp [exR, evR, lineOk, sizeLine_eq, ofX, ofF, noR, R.out, R.bind, R.of, with1, with2, withs, Bor.res, Bor.frz, ress, frzs, bl2, dat, Sl.get?, Sl.frz, mkSl, Out.res, Res.put, mkArgs, ioAt, doCall, putIos, nd0, nd1, ndl, ndc, nAdd, nSub, nMul, nDiv, nMod, nShl, nShr, nAnd, nXor, nPow, sAdd, lAdd, rAdd, tAdd, lMul, sMul, cEqN, cEqS, cEqB, cNeN, cNeS, cNeB, cLt, cLe, cGt, cGe, cIs, cIsN, isNonN, isNonS, isNonL, isNonR, isNonT, isNonB, isNon0, inS, ninS, tN, tB, tL, tT, tR, t0, bLenL, bLenT, bLenR, bLenS, bIntN, bMin, bMax, bSum, bLstL, bLstT, bTupL, bTupT, ixL, ixT, ixR, ixS, isiN, isiR, flatN, flatR, mutN, mutR, itR, itL, itT, itS, cNilR, cNilN, cNilL, cNilM, meTyJ, inR, ninR, flat0, flatB, flatI, flatS, flatF, flatL, flatT, flatD, mut0, mutB, mutI, mutS, mutF, mutL, mutT, mutD, isi0, isiB, isiI, isiS, isiL, isiT, isiDc, muOk, muTyR, muTyL, muAR, muAL, rMul, setR, bAbs]) (by omega) (by omega)
  refine go_nx (Is _) (e1 := [.sh (nD n), .sh (nD (fct (n + 1 - 2 + 1))), x]) (for_nx rfl hi k1) ?_
  have e : fct (n + 1 - 2 + 1) = fct n := by
    cases n with
    | zero => rfl
    | succ n => rw [show n + 1 + 1 - 2 + 1 = n + 1 by omega]
  rw [e]
  show ((exR G (fnEval G k) [] (.seq (.ret (.var 1)) .skip)).x _).res = _
  rw [seq_rt (ret_sh (d := nD (fct n)) rfl rfl)]
  rfl
theorem pc_pos {p : Nat} (h : p ≠ 0) : 1 ≤ pcN p := by
  induction p using Nat.strongRecOn with
  | _ p ih =>
    rw [pcN_step]
    by_cases h2 : p % 2 = 1
    · omega
    · have := ih (p / 2) (by omega) (by omega)
      omega
theorem pc_le : ∀ {n p : Nat}, p < 2 ^ n → pcN p ≤ n
  | 0, p, h => by
    have : p = 0 := by simpa using h
    rw [this, pcN_0]
    omega
  | n + 1, p, h => by
    rw [pcN_step]
    have := pc_le (n := n) (p := p / 2) (by rw [Nat.pow_succ] at h; omega)
    omega
def dv (W : List Nat) (b j : Nat) : Nat := ((sz W b j).map fun s => fct (s - 1) * fct (W.length - s)).sum
def dvL (W : List Nat) (b : Nat) : List Nat := (List.range W.length).map (dv W b)
theorem fct_le : ∀ n, n ≤ 5 → fct n ≤ 120 := by decide
theorem fct_pos : ∀ n, 0 < fct n
  | 0 => by decide
  | n + 1 => Nat.mul_pos (fct_pos n) (by omega)
theorem decided_ok (k : Nat) {W : List Nat} {b : Nat} (v : Vote W b) (h : 4 ≤ k) : (fnEval G k 11 [.sh (rowsD W), .sh (nD b)]).res = .ok (rowsD (dvL W b)) true := by
  obtain ⟨k, rfl⟩ : ∃ j, k = j + 1 := ⟨k - 1, by omega⟩
  rw [fn_at k [.sh (rowsD W), .sh (nD b)] [.sh (rowsD W), .sh (nD b), .no, .no, .no, .no, .no] (show G.fns[11]? = some f11 from rfl) rfl rfl]
  have l2 := v.l2
  obtain ⟨e', k1, s4, s5, k2⟩ := for_thru (tg := .nm 4) (body := (exR G (fnEval G k) [] F11b0).x) (fun i e => ∃ s4 s5, e = [.sh (rowsD W), .sh (nD b), .sh (nD W.length), .ow (rowsD ((List.range i).map (dv W b))), s4, s5, .no]) (rngL 0 W.length) 0 [.sh (rowsD W), .sh (nD b), .sh (nD W.length), .ow (rowsD []), .no, .no, .no] ⟨_, _, rfl⟩ fun j d e hj ⟨s4, s5, hx⟩ => by
    subst hx
    have hlt : j < W.length := by
      have := (List.getElem?_eq_some_iff.mp hj).1
      rwa [rng_len] at this
    rw [rng_at hlt] at hj
    have hd : d = nD j := by simpa [nD] using hj.symm
    subst hd
    rw [Nat.zero_add]
    refine ⟨[.sh (rowsD W), .sh (nD b), .sh (nD W.length), .ow (rowsD ((List.range j).map (dv W b))), .sh (nD j), s5, .no], [.sh (rowsD W), .sh (nD b), .sh (nD W.length), .ow (rowsD ((List.range (j + 1)).map (dv W b))), .sh (nD j), .sh (rowsD (sz W b j)), .no], rfl, .inl ?_, _, _, rfl⟩
    have so := sizes_ok k v j hlt (by omega)
    unfold F11b0
    rw [seq_nx (asg_nx (x := (rowsD (sz W b j), true)) (e1 := [.sh (rowsD W), .sh (nD b), .sh (nD W.length), .ow (rowsD ((List.range j).map (dv W b))), .sh (nD j), s5, .no]) (by simp [so, exR, evR, lineOk, sizeLine_eq, ofX, ofF, noR, R.out, R.bind, R.of, with1, with2, withs, Bor.res, Bor.frz, ress, frzs, bl2, dat, Sl.get?, Sl.frz, mkSl, Out.res, Res.put, mkArgs, ioAt, doCall, putIos, nd0, nd1, ndl, ndc, nAdd, nSub, nMul, nDiv, nMod, nShl, nShr, nAnd, nXor, nPow, sAdd, lAdd, rAdd, tAdd, lMul, sMul, cEqN, cEqS, cEqB, cNeN, cNeS, cNeB, cLt, cLe, cGt, cGe, cIs, cIsN, isNonN, isNonS, isNonL, isNonR, isNonT, isNonB, isNon0, inS, ninS, tN, tB, tL, tT, tR, t0, bLenL, bLenT, bLenR, bLenS, bIntN, bMin, bMax, bSum, bLstL, bLstT, bTupL, bTupT, ixL, ixT, ixR, ixS, isiN, isiR, flatN, flatR, mutN, mutR, itR, itL, itT, itS, cNilR, cNilN, cNilL, cNilM, meTyJ, inR, ninR, flat0, flatB, flatI, flatS, flatF, flatL, flatT, flatD, mut0, mutB, mutI, mutS, mutF, mutL, mutT, mutD, isi0, isiB, isiI, isiS, isiL, isiT, isiDc, muOk, muTyR, muTyL, muAR, muAL, rMul, setR, bAbs]) rfl)]
    have c : (evR G (fnEval G k) F11c0).f [.sh (rowsD W), .sh (nD b), .sh (nD W.length), .ow (rowsD ((List.range j).map (dv W b))), .sh (nD j), .ow (rowsD (sz W b j)), .no] = .ok (rowsD ((sz W b j).map fun s => fct (s - 1) * fct (W.length - s)), true) [.sh (rowsD W), .sh (nD b), .sh (nD W.length), .ow (rowsD ((List.range j).map (dv W b))), .sh (nD j), .sh (rowsD (sz W b j)), .no] := by
      rw [← rows_map (sz W b j) (fun s => fct (s - 1) * fct (W.length - s))]
      have sl : (sz W b j).length ≤ 1024 := by
        have := pow10 (show W.length ≤ 10 by omega)
        unfold sz own
        rw [List.length_map]
        refine Nat.le_trans (List.length_filter_le _ _) ?_
        simp
        omega
      refine comp_all (sz W b j) nD (fun s => nD (fct (s - 1) * fct (W.length - s))) (by rfl) (by omega) (fun s hs => ⟨false, ?_⟩)
      obtain ⟨p, hp, rfl⟩ := List.mem_map.mp hs
      obtain ⟨hp1, hp2⟩ := List.mem_filter.mp hp
      have hp1 : p < 2 ^ W.length := by simpa using hp1
      have hbit : p / 2 ^ j % 2 = 1 := of_decide_eq_true (and2 hp2).1
      have h1 : 1 ≤ pcN p := pc_pos (by
        intro h0
        subst h0
        simp at hbit)
      have h2 := pc_le hp1
      have g1 := fct_ok k (pcN p - 1) (by omega) (by omega)
      have g2 := fct_ok k (W.length - pcN p) (by omega) (by omega)
      have s1 := nSub h1
      have s2 := nSub h2
      have mu := nMul (a := fct (pcN p - 1)) (b := fct (W.length - pcN p)) (.inr (by have := fct_le (W.length - pcN p) (by omega); omega))
      simp [g1, g2, s1, s2, mu, exR, evR, lineOk, sizeLine_eq, ofX, ofF, noR, R.out, R.bind, R.of, with1, with2, withs, Bor.res, Bor.frz, ress, frzs, bl2, dat, Sl.get?, Sl.frz, mkSl, Out.res, Res.put, mkArgs, ioAt, doCall, putIos, nd0, nd1, ndl, ndc, nAdd, nSub, nMul, nDiv, nMod, nShl, nShr, nAnd, nXor, nPow, sAdd, lAdd, rAdd, tAdd, lMul, sMul, cEqN, cEqS, cEqB, cNeN, cNeS, cNeB, cLt, cLe, cGt, cGe, cIs, cIsN, isNonN, isNonS, isNonL, isNonR, isNonT, isNonB, isNon0, inS, ninS, tN, tB, tL, tT, tR, t0, bLenL, bLenT, bLenR, bLenS, bIntN, bMin, bMax, bSum, bLstL, bLstT, bTupL, bTupT, ixL, ixT, ixR, ixS, isiN, isiR, flatN, flatR, mutN, mutR, itR, itL, itT, itS, cNilR, cNilN, cNilL, cNilM, meTyJ, inR, ninR, flat0, flatB, flatI, flatS, flatF, flatL, flatT, flatD, mut0, mutB, mutI, mutS, mutF, mutL, mutT, mutD, isi0, isiB, isiI, isiS, isiL, isiT, isiDc, muOk, muTyR, muTyL, muAR, muAL, rMul, setR, bAbs]
    have ma := muAR (l := (List.range j).map (dv W b)) (dv W b j) (by simp; omega)
    have e : (List.range (j + 1)).map (dv W b) = (List.range j).map (dv W b) ++ [dv W b j] := by
      rw [List.range_succ, List.map_append]
      rfl
    rw [e]
    show (exR G (fnEval G k) [] _).x [.sh (rowsD W), .sh (nD b), .sh (nD W.length), .ow (rowsD ((List.range j).map (dv W b))), .sh (nD j), .ow (rowsD (sz W b j)), .no] = _
    generalize (List.range j).map (dv W b) = acc at c ma ⊢
    unfold dv at ma ⊢
    simp [c, ma, exR, evR, lineOk, sizeLine_eq, ofX, ofF, noR, R.out, R.bind, R.of, with1, with2, withs, Bor.res, Bor.frz, ress, frzs, bl2, dat, Sl.get?, Sl.frz, mkSl, Out.res, Res.put, mkArgs, ioAt, doCall, putIos, nd0, nd1, ndl, ndc, nAdd, nSub, nMul, nDiv, nMod, nShl, nShr, nAnd, nXor, nPow, sAdd, lAdd, rAdd, tAdd, lMul, sMul, cEqN, cEqS, cEqB, cNeN, cNeS, cNeB, cLt, cLe, cGt, cGe, cIs, cIsN, isNonN, isNonS, isNonL, isNonR, isNonT, isNonB, isNon0, inS, ninS, tN, tB, tL, tT, tR, t0, bLenL, bLenT, bLenR, bLenS, bIntN, bMin, bMax, bSum, bLstL, bLstT, bTupL, bTupT, ixL, ixT, ixR, ixS, isiN, isiR, flatN, flatR, mutN, mutR, itR, itL, itT, itS, cNilR, cNilN, cNilL, cNilM, meTyJ, inR, ninR, flat0, flatB, flatI, flatS, flatF, flatL, flatT, flatD, mut0, mutB, mutI, mutS, mutF, mutL, mutT, mutD, isi0, isiB, isiI, isiS, isiL, isiT, isiDc, muOk, muTyR, muTyL, muAR, muAL, rMul, setR, bAbs]
  subst k2
  rw [rng_len, Nat.zero_add] at k1
  refine go_asg (Is _) (x := (nD W.length, false)) (e1 := [.sh (rowsD W), .sh (nD b), .no, .no, .no, .no, .no]) (by simp [exR, evR, lineOk, sizeLine_eq, ofX, ofF, noR, R.out, R.bind, R.of, with1, with2, withs, Bor.res, Bor.frz, ress, frzs, bl2, dat, Sl.get?, Sl.frz, mkSl, Out.res, Res.put, mkArgs, ioAt, doCall, putIos, nd0, nd1, ndl, ndc, nAdd, nSub, nMul, nDiv, nMod, nShl, nShr, nAnd, nXor, nPow, sAdd, lAdd, rAdd, tAdd, lMul, sMul, cEqN, cEqS, cEqB, cNeN, cNeS, cNeB, cLt, cLe, cGt, cGe, cIs, cIsN, isNonN, isNonS, isNonL, isNonR, isNonT, isNonB, isNon0, inS, ninS, tN, tB, tL, tT, tR, t0, bLenL, bLenT, bLenR, bLenS, bIntN, bMin, bMax, bSum, bLstL, bLstT, bTupL, bTupT, ixL, ixT, ixR, ixS, isiN, isiR, flatN, flatR, mutN, mutR, itR, itL, itT, itS, cNilR, cNilN, cNilL, cNilM, meTyJ, inR, ninR, flat0, flatB, flatI, flatS, flatF, flatL, flatT, flatD, mut0, mutB, mutI, mutS, mutF, mutL, mutT, mutD, isi0, isiB, isiI, isiS, isiL, isiT, isiDc, muOk, muTyR, muTyL, muAR, muAL, rMul, setR, bAbs]) rfl ?_
  refine go_asg (Is _) (x := (rowsD [], true)) (e1 := [.sh (rowsD W), .sh (nD b), .sh (nD W.length), .no, .no, .no, .no]) rfl rfl ?_
  have hi : (evR G (fnEval G k) (.rng1 (.var 2))).i [.sh (rowsD W), .sh (nD b), .sh (nD W.length), .ow (rowsD []), .no, .no, .no] = .ok (rngL 0 W.length) [.sh (rowsD W), .sh (nD b), .sh (nD W.length), .ow (rowsD []), .no, .no, .no] := by
    rw [rng_range]
    exact rng1_i (fr := false) rfl (by omega)
  refine go_nx (Is _) (e1 := [.sh (rowsD W), .sh (nD b), .sh (nD W.length), .ow (rowsD ((List.range W.length).map (dv W b))), s4, s5, .no]) (for_nx rfl hi k1) ?_
  show ((exR G (fnEval G k) [] (.seq (.ret (.var 3)) .skip)).x _).res = _
  rw [seq_rt (ret_ow (d := rowsD (dvL W b)) rfl rfl)]
  rfl
theorem odecided_ok (k : Nat) {W : List Nat} {b : Nat} (v : Vote W b) (h : 5 ≤ k) : (fnEval G k 12 [.sh (rowsD W), .sh (nD b)]).res = .ok (rowsD (dvL W b)) true := by
  obtain ⟨k, rfl⟩ : ∃ j, k = j + 1 := ⟨k - 1, by omega⟩
  rw [fn_at k [.sh (rowsD W), .sh (nD b)] [.sh (rowsD W), .sh (nD b)] (show G.fns[12]? = some f12 from rfl) rfl rfl]
  have vo := votes_ok k v (by omega)
  have de := decided_ok k v (by omega)
  simp [vo, de, exR, evR, lineOk, sizeLine_eq, ofX, ofF, noR, R.out, R.bind, R.of, with1, with2, withs, Bor.res, Bor.frz, ress, frzs, bl2, dat, Sl.get?, Sl.frz, mkSl, Out.res, Res.put, mkArgs, ioAt, doCall, putIos, nd0, nd1, ndl, ndc, nAdd, nSub, nMul, nDiv, nMod, nShl, nShr, nAnd, nXor, nPow, sAdd, lAdd, rAdd, tAdd, lMul, sMul, cEqN, cEqS, cEqB, cNeN, cNeS, cNeB, cLt, cLe, cGt, cGe, cIs, cIsN, isNonN, isNonS, isNonL, isNonR, isNonT, isNonB, isNon0, inS, ninS, tN, tB, tL, tT, tR, t0, bLenL, bLenT, bLenR, bLenS, bIntN, bMin, bMax, bSum, bLstL, bLstT, bTupL, bTupT, ixL, ixT, ixR, ixS, isiN, isiR, flatN, flatR, mutN, mutR, itR, itL, itT, itS, cNilR, cNilN, cNilL, cNilM, meTyJ, inR, ninR, flat0, flatB, flatI, flatS, flatF, flatL, flatT, flatD, mut0, mutB, mutI, mutS, mutF, mutL, mutT, mutD, isi0, isiB, isiI, isiS, isiL, isiT, isiDc, muOk, muTyR, muTyL, muAR, muAL, rMul, setR, bAbs]
theorem pgcd_ok (k a b : Nat) (hb : b < 1000000) (h : 1 ≤ k) : (fnEval G k 2 [.sh (nD a), .sh (nD b)]).res = .ok (nD (Nat.gcd a b)) false := gcd_ok (.inl rfl) (show G.fns[2]? = some ⟨"divisor", 2, ["a", "b"], [], bGcd .NotEq⟩ from rfl) rfl k a b hb h
theorem lgcd_ok (k a b : Nat) (hb : b < 1000000) (h : 1 ≤ k) : (fnEval G k 25 [.sh (nD a), .sh (nD b)]).res = .ok (nD (Nat.gcd a b)) false := gcd_ok (.inr rfl) (show G.fns[25]? = some ⟨"_law_divisor", 2, ["a", "b"], [], bGcd .Gt⟩ from rfl) rfl k a b hb h
theorem fraction_ok (k a b : Nat) (h0 : 0 < b) (hb : b < 1000000) (h : 2 ≤ k) : (fnEval G k 3 [.sh (nD a), .sh (nD b)]).res = .ok (.tup [nD (a / Nat.gcd a b), nD (b / Nat.gcd a b)]) false := by
  obtain ⟨k, rfl⟩ : ∃ j, k = j + 1 := ⟨k - 1, by omega⟩
  rw [fn_at k [.sh (nD a), .sh (nD b)] [.sh (nD a), .sh (nD b), .no] (show G.fns[3]? = some f3 from rfl) rfl rfl]
  have g := pgcd_ok k a b hb (by omega)
  have g0 : 0 < Nat.gcd a b := Nat.gcd_pos_of_pos_right _ h0
  have g1 : Nat.gcd a b ≤ b := Nat.gcd_le_right _ h0
  have d1 := nDiv (a := a) g0 (by omega)
  have d2 := nDiv (a := b) g0 (by omega)
  simp [g, d1, d2, exR, evR, lineOk, sizeLine_eq, ofX, ofF, noR, R.out, R.bind, R.of, with1, with2, withs, Bor.res, Bor.frz, ress, frzs, bl2, dat, Sl.get?, Sl.frz, mkSl, Out.res, Res.put, mkArgs, ioAt, doCall, putIos, nd0, nd1, ndl, ndc, nAdd, nSub, nMul, nDiv, nMod, nShl, nShr, nAnd, nXor, nPow, sAdd, lAdd, rAdd, tAdd, lMul, sMul, cEqN, cEqS, cEqB, cNeN, cNeS, cNeB, cLt, cLe, cGt, cGe, cIs, cIsN, isNonN, isNonS, isNonL, isNonR, isNonT, isNonB, isNon0, inS, ninS, tN, tB, tL, tT, tR, t0, bLenL, bLenT, bLenR, bLenS, bIntN, bMin, bMax, bSum, bLstL, bLstT, bTupL, bTupT, ixL, ixT, ixR, ixS, isiN, isiR, flatN, flatR, mutN, mutR, itR, itL, itT, itS, cNilR, cNilN, cNilL, cNilM, meTyJ, inR, ninR, flat0, flatB, flatI, flatS, flatF, flatL, flatT, flatD, mut0, mutB, mutI, mutS, mutF, mutL, mutT, mutD, isi0, isiB, isiI, isiS, isiL, isiT, isiDc, muOk, muTyR, muTyL, muAR, muAL, rMul, setR, bAbs]
def shL (W : List Nat) (b : Nat) : List D := (dvL W b).map fun m => .tup [nD (m / Nat.gcd m (fct W.length)), nD (fct W.length / Nat.gcd m (fct W.length))]
theorem shares_ok (k : Nat) {W : List Nat} {b : Nat} (v : Vote W b) (h : 5 ≤ k) : (fnEval G k 13 [.sh (rowsD W), .sh (nD b)]).res = .ok (.lst (shL W b)) true := by
  obtain ⟨k, rfl⟩ : ∃ j, k = j + 1 := ⟨k - 1, by omega⟩
  rw [fn_at k [.sh (rowsD W), .sh (nD b)] [.sh (rowsD W), .sh (nD b), .no] (show G.fns[13]? = some f13 from rfl) rfl rfl]
  have vo := votes_ok k v (by omega)
  have de := decided_ok k v (by omega)
  have l2 := v.l2
  have fo := fct_ok k W.length (by omega) (by omega)
  have f1 := fct_le W.length l2
  have c : (evR G (fnEval G k) F13c0).f [.sh (rowsD W), .sh (nD b), .no] = .ok (.lst (shL W b), true) [.sh (rowsD W), .sh (nD b), .no] := by
    refine comp_all (dvL W b) nD (fun m => .tup [nD (m / Nat.gcd m (fct W.length)), nD (fct W.length / Nat.gcd m (fct W.length))]) (by simp [de, exR, evR, lineOk, sizeLine_eq, ofX, ofF, noR, R.out, R.bind, R.of, with1, with2, withs, Bor.res, Bor.frz, ress, frzs, bl2, dat, Sl.get?, Sl.frz, mkSl, Out.res, Res.put, mkArgs, ioAt, doCall, putIos, nd0, nd1, ndl, ndc, nAdd, nSub, nMul, nDiv, nMod, nShl, nShr, nAnd, nXor, nPow, sAdd, lAdd, rAdd, tAdd, lMul, sMul, cEqN, cEqS, cEqB, cNeN, cNeS, cNeB, cLt, cLe, cGt, cGe, cIs, cIsN, isNonN, isNonS, isNonL, isNonR, isNonT, isNonB, isNon0, inS, ninS, tN, tB, tL, tT, tR, t0, bLenL, bLenT, bLenR, bLenS, bIntN, bMin, bMax, bSum, bLstL, bLstT, bTupL, bTupT, ixL, ixT, ixR, ixS, isiN, isiR, flatN, flatR, mutN, mutR, itR, itL, itT, itS, cNilR, cNilN, cNilL, cNilM, meTyJ, inR, ninR, flat0, flatB, flatI, flatS, flatF, flatL, flatT, flatD, mut0, mutB, mutI, mutS, mutF, mutL, mutT, mutD, isi0, isiB, isiI, isiS, isiL, isiT, isiDc, muOk, muTyR, muTyL, muAR, muAL, rMul, setR, bAbs]) (by unfold dvL; simp; omega) (fun m _ => ⟨false, ?_⟩)
    have fr := fraction_ok k m (fct W.length) (fct_pos _) (by omega) (by omega)
    simp [fr, fo, exR, evR, lineOk, sizeLine_eq, ofX, ofF, noR, R.out, R.bind, R.of, with1, with2, withs, Bor.res, Bor.frz, ress, frzs, bl2, dat, Sl.get?, Sl.frz, mkSl, Out.res, Res.put, mkArgs, ioAt, doCall, putIos, nd0, nd1, ndl, ndc, nAdd, nSub, nMul, nDiv, nMod, nShl, nShr, nAnd, nXor, nPow, sAdd, lAdd, rAdd, tAdd, lMul, sMul, cEqN, cEqS, cEqB, cNeN, cNeS, cNeB, cLt, cLe, cGt, cGe, cIs, cIsN, isNonN, isNonS, isNonL, isNonR, isNonT, isNonB, isNon0, inS, ninS, tN, tB, tL, tT, tR, t0, bLenL, bLenT, bLenR, bLenS, bIntN, bMin, bMax, bSum, bLstL, bLstT, bTupL, bTupT, ixL, ixT, ixR, ixS, isiN, isiR, flatN, flatR, mutN, mutR, itR, itL, itT, itS, cNilR, cNilN, cNilL, cNilM, meTyJ, inR, ninR, flat0, flatB, flatI, flatS, flatF, flatL, flatT, flatD, mut0, mutB, mutI, mutS, mutF, mutL, mutT, mutD, isi0, isiB, isiI, isiS, isiL, isiT, isiDc, muOk, muTyR, muTyL, muAR, muAL, rMul, setR, bAbs]
  refine go_expr (Is _) (x := (.non, false)) (e1 := [.sh (rowsD W), .sh (nD b), .no]) (by simp [vo, exR, evR, lineOk, sizeLine_eq, ofX, ofF, noR, R.out, R.bind, R.of, with1, with2, withs, Bor.res, Bor.frz, ress, frzs, bl2, dat, Sl.get?, Sl.frz, mkSl, Out.res, Res.put, mkArgs, ioAt, doCall, putIos, nd0, nd1, ndl, ndc, nAdd, nSub, nMul, nDiv, nMod, nShl, nShr, nAnd, nXor, nPow, sAdd, lAdd, rAdd, tAdd, lMul, sMul, cEqN, cEqS, cEqB, cNeN, cNeS, cNeB, cLt, cLe, cGt, cGe, cIs, cIsN, isNonN, isNonS, isNonL, isNonR, isNonT, isNonB, isNon0, inS, ninS, tN, tB, tL, tT, tR, t0, bLenL, bLenT, bLenR, bLenS, bIntN, bMin, bMax, bSum, bLstL, bLstT, bTupL, bTupT, ixL, ixT, ixR, ixS, isiN, isiR, flatN, flatR, mutN, mutR, itR, itL, itT, itS, cNilR, cNilN, cNilL, cNilM, meTyJ, inR, ninR, flat0, flatB, flatI, flatS, flatF, flatL, flatT, flatD, mut0, mutB, mutI, mutS, mutF, mutL, mutT, mutD, isi0, isiB, isiI, isiS, isiL, isiT, isiDc, muOk, muTyR, muTyL, muAR, muAL, rMul, setR, bAbs]) ?_
  refine go_ret (Is _) (by intro i h; cases h) c ?_
  rfl
theorem without_ok (k : Nat) {W : List Nat} {b : Nat} (v : Vote W b) (h : 4 ≤ k) : (fnEval G k 14 [.sh (rowsD W), .sh (nD b)]).res = .ok (rowsD ((List.range W.length).filter fun j => (sz W b j).isEmpty)) true := by
  obtain ⟨k, rfl⟩ : ∃ j, k = j + 1 := ⟨k - 1, by omega⟩
  rw [fn_at k [.sh (rowsD W), .sh (nD b)] [.sh (rowsD W), .sh (nD b), .no] (show G.fns[14]? = some f14 from rfl) rfl rfl]
  have vo := votes_ok k v (by omega)
  have l2 := v.l2
  have c : (evR G (fnEval G k) F14c0).f [.sh (rowsD W), .sh (nD b), .no] = .ok (rowsD ((List.range W.length).filter fun j => (sz W b j).isEmpty), true) [.sh (rowsD W), .sh (nD b), .no] := by
    refine comp_det (List.range W.length) nD (fun j => (sz W b j).isEmpty) nD (rng1_i (fr := false) (by simp [exR, evR, lineOk, sizeLine_eq, ofX, ofF, noR, R.out, R.bind, R.of, with1, with2, withs, Bor.res, Bor.frz, ress, frzs, bl2, dat, Sl.get?, Sl.frz, mkSl, Out.res, Res.put, mkArgs, ioAt, doCall, putIos, nd0, nd1, ndl, ndc, nAdd, nSub, nMul, nDiv, nMod, nShl, nShr, nAnd, nXor, nPow, sAdd, lAdd, rAdd, tAdd, lMul, sMul, cEqN, cEqS, cEqB, cNeN, cNeS, cNeB, cLt, cLe, cGt, cGe, cIs, cIsN, isNonN, isNonS, isNonL, isNonR, isNonT, isNonB, isNon0, inS, ninS, tN, tB, tL, tT, tR, t0, bLenL, bLenT, bLenR, bLenS, bIntN, bMin, bMax, bSum, bLstL, bLstT, bTupL, bTupT, ixL, ixT, ixR, ixS, isiN, isiR, flatN, flatR, mutN, mutR, itR, itL, itT, itS, cNilR, cNilN, cNilL, cNilM, meTyJ, inR, ninR, flat0, flatB, flatI, flatS, flatF, flatL, flatT, flatD, mut0, mutB, mutI, mutS, mutF, mutL, mutT, mutD, isi0, isiB, isiI, isiS, isiL, isiT, isiDc, muOk, muTyR, muTyL, muAR, muAL, rMul, setR, bAbs]) (by omega)) (by simp; omega) (fun j hj => ?_) (fun j _ _ => ⟨false, rfl⟩)
    have so := sizes_ok k v j (by simpa using hj) (by omega)
    simp [so, -List.isEmpty_iff, -List.isEmpty_eq_false_iff, exR, evR, lineOk, sizeLine_eq, ofX, ofF, noR, R.out, R.bind, R.of, with1, with2, withs, Bor.res, Bor.frz, ress, frzs, bl2, dat, Sl.get?, Sl.frz, mkSl, Out.res, Res.put, mkArgs, ioAt, doCall, putIos, nd0, nd1, ndl, ndc, nAdd, nSub, nMul, nDiv, nMod, nShl, nShr, nAnd, nXor, nPow, sAdd, lAdd, rAdd, tAdd, lMul, sMul, cEqN, cEqS, cEqB, cNeN, cNeS, cNeB, cLt, cLe, cGt, cGe, cIs, cIsN, isNonN, isNonS, isNonL, isNonR, isNonT, isNonB, isNon0, inS, ninS, tN, tB, tL, tT, tR, t0, bLenL, bLenT, bLenR, bLenS, bIntN, bMin, bMax, bSum, bLstL, bLstT, bTupL, bTupT, ixL, ixT, ixR, ixS, isiN, isiR, flatN, flatR, mutN, mutR, itR, itL, itT, itS, cNilR, cNilN, cNilL, cNilM, meTyJ, inR, ninR, flat0, flatB, flatI, flatS, flatF, flatL, flatT, flatD, mut0, mutB, mutI, mutS, mutF, mutL, mutT, mutD, isi0, isiB, isiI, isiS, isiL, isiT, isiDc, muOk, muTyR, muTyL, muAR, muAL, rMul, setR, bAbs]
  refine go_expr (Is _) (x := (.non, false)) (e1 := [.sh (rowsD W), .sh (nD b), .no]) (by simp [vo, exR, evR, lineOk, sizeLine_eq, ofX, ofF, noR, R.out, R.bind, R.of, with1, with2, withs, Bor.res, Bor.frz, ress, frzs, bl2, dat, Sl.get?, Sl.frz, mkSl, Out.res, Res.put, mkArgs, ioAt, doCall, putIos, nd0, nd1, ndl, ndc, nAdd, nSub, nMul, nDiv, nMod, nShl, nShr, nAnd, nXor, nPow, sAdd, lAdd, rAdd, tAdd, lMul, sMul, cEqN, cEqS, cEqB, cNeN, cNeS, cNeB, cLt, cLe, cGt, cGe, cIs, cIsN, isNonN, isNonS, isNonL, isNonR, isNonT, isNonB, isNon0, inS, ninS, tN, tB, tL, tT, tR, t0, bLenL, bLenT, bLenR, bLenS, bIntN, bMin, bMax, bSum, bLstL, bLstT, bTupL, bTupT, ixL, ixT, ixR, ixS, isiN, isiR, flatN, flatR, mutN, mutR, itR, itL, itT, itS, cNilR, cNilN, cNilL, cNilM, meTyJ, inR, ninR, flat0, flatB, flatI, flatS, flatF, flatL, flatT, flatD, mut0, mutB, mutI, mutS, mutF, mutL, mutT, mutD, isi0, isiB, isiI, isiS, isiL, isiT, isiDc, muOk, muTyR, muTyL, muAR, muAL, rMul, setR, bAbs]) ?_
  refine go_ret (Is _) (by intro i h; cases h) c ?_
  rfl
end K19
namespace K19
open PySem EV
def ordStep (n : Nat) (os : List (List Nat)) : List (List Nat) := os.flatMap fun o => ((List.range n).filter fun k => !o.contains k).map fun k => o ++ [k]
def ordersL (n : Nat) : List (List Nat) := Nat.repeat (ordStep n) n [[]]
def ordD (os : List (List Nat)) : D := .lst (os.map rowsD)
theorem orders1 : (fnEval G 40 24 [.sh (nD 1)]).res = .ok (ordD (ordersL 1)) false := by kernel_rfl
theorem orders2 : (fnEval G 40 24 [.sh (nD 2)]).res = .ok (ordD (ordersL 2)) false := by kernel_rfl
theorem orders3 : (fnEval G 40 24 [.sh (nD 3)]).res = .ok (ordD (ordersL 3)) false := by kernel_rfl
theorem orders4 : (fnEval G 40 24 [.sh (nD 4)]).res = .ok (ordD (ordersL 4)) false := by kernel_rfl
theorem orders5 : (fnEval G 40 24 [.sh (nD 5)]).res = .ok (ordD (ordersL 5)) false := by kernel_rfl
theorem orders_ok (n : Nat) (h1 : 1 ≤ n) (h2 : n ≤ 5) : (fnEval G 40 24 [.sh (nD n)]).res = .ok (ordD (ordersL n)) false := by
  have : n = 1 ∨ n = 2 ∨ n = 3 ∨ n = 4 ∨ n = 5 := by omega
  rcases this with rfl | rfl | rfl | rfl | rfl
  · exact orders1
  · exact orders2
  · exact orders3
  · exact orders4
  · exact orders5
/-! counting in the orders -/
def pc5 (p : Nat) : Nat := p % 2 + p / 2 % 2 + p / 4 % 2 + p / 8 % 2 + p / 16 % 2
theorem pc5_eq {p : Nat} (h : p < 32) : pcN p = pc5 p := by
  unfold pc5
  rw [pcN_step p, pcN_step (p / 2), pcN_step (p / 2 / 2), pcN_step (p / 2 / 2 / 2), pcN_step (p / 2 / 2 / 2 / 2), show p / 2 / 2 / 2 / 2 / 2 = 0 by omega, pcN_0]
  omega
def chk (n m : Nat) : List Nat → Bool
  | [] => true
  | k :: o => decide (k < n) && !tb m k && decide (m < 32) && chk n (m + 2 ^ k) o
def posm (j m : Nat) : List Nat → List Nat
  | [] => []
  | k :: o => (if k = j then [m + 2 ^ k] else []) ++ posm j (m + 2 ^ k) o
def TT (n j : Nat) : List Nat := (ordersL n).flatMap (posm j 0)
def RR (n j : Nat) : List Nat := ((List.range (2 ^ n)).filter (fun p => tb p j)).flatMap fun p => List.replicate (fct (pc5 p - 1) * fct (n - pc5 p)) p
theorem chk_all : ∀ n, n < 6 → (ordersL n).all (chk n 0) = true := by decide +kernel
theorem perm_all : ∀ n, n < 6 → ∀ j, j < n → (TT n j).isPerm (RR n j) = true := by decide +kernel
theorem len_all : ∀ n, n < 6 → (ordersL n).length = fct n := by decide +kernel
theorem lt_all : ∀ n, n < 6 → (ordersL n).all (fun o => o.all fun k => decide (k < n)) = true := by decide +kernel
theorem tt_len : ∀ n, n < 6 → ∀ j, j < n → (TT n j).length ≤ 1000 := by decide +kernel
theorem tb_all : ∀ m, m < 32 → ∀ k, k < 5 → tb m k = false → ∀ i, i < 5 → tb (m + 2 ^ k) i = (tb m i || decide (i = k)) := by decide +kernel
theorem sm_add (W : List Nat) (m k : Nat) (hm : m < 32) (hk : k < 5) (h : tb m k = false) : ∀ i, i ≤ 5 → sm W i (m + 2 ^ k) = sm W i m + if k < i then wt W k else 0
  | 0, _ => by simp [sm]
  | i + 1, hi => by
    rw [sm_succ, sm_succ, sm_add W m k hm hk h i (by omega), tb_all m hm k hk h i (by omega)]
    by_cases hik : i = k
    · subst hik
      simp [h]
    · by_cases hki : k < i
      · rw [if_pos hki, if_pos (show k < i + 1 by omega)]
        simp [hik]
        omega
      · rw [if_neg hki, if_neg (show ¬ k < i + 1 by omega)]
        simp [hik]
def hits (W : List Nat) (b j : Nat) : Nat → List Nat → Nat
  | _, [] => 0
  | t, k :: o => (if k = j ∧ t < b ∧ b ≤ t + wt W k then 1 else 0) + hits W b j (t + wt W k) o
theorem hits_pos (W : List Nat) (b j : Nat) (hn : W.length ≤ 5) : ∀ (o : List Nat) (m : Nat), chk W.length m o = true → hits W b j (sm W W.length m) o = ((posm j m o).filter (ownP W b j)).length
  | [], m, _ => rfl
  | k :: o, m, h => by
    obtain ⟨h, h4⟩ := and2 (show ((decide (k < W.length) && !tb m k && decide (m < 32)) && chk W.length (m + 2 ^ k) o) = true from h)
    obtain ⟨h, h3⟩ := and2 h
    obtain ⟨h1, h2⟩ := and2 h
    have h1 := of_decide_eq_true h1
    have h3 := of_decide_eq_true h3
    have h2 : tb m k = false := by simpa using h2
    have a := sm_add W m k h3 (by omega) h2 W.length hn
    rw [if_pos h1] at a
    have ih := hits_pos W b j hn o (m + 2 ^ k) h4
    rw [a] at ih
    rw [hits, posm, List.filter_append, List.length_append, ih]
    congr 1
    by_cases hk : k = j
    · subst hk
      have t1 : tb (m + 2 ^ k) k = true := by
        rw [tb_all m h3 k (by omega) h2 k (by omega)]
        simp
      have t2 : (m + 2 ^ k) / 2 ^ k % 2 = 1 := of_decide_eq_true t1
      have e : ownP W b k (m + 2 ^ k) = decide (sm W W.length m < b ∧ b ≤ sm W W.length m + wt W k) := by
        unfold ownP
        rw [a, t2]
        by_cases c1 : b ≤ sm W W.length m + wt W k <;> by_cases c2 : sm W W.length m < b <;> simp [c1, c2]
      rw [if_pos rfl, List.filter_cons, e]
      by_cases c : sm W W.length m < b ∧ b ≤ sm W W.length m + wt W k <;> simp [c]
    · simp [hk]
theorem flat_filter (q : Nat → Bool) (c : Nat → Nat) : ∀ l : List Nat, ((l.flatMap fun p => List.replicate (c p) p).filter q).length = ((l.filter q).map c).sum
  | [] => rfl
  | a :: l => by
    rw [List.flatMap_cons, List.filter_append, List.length_append, flat_filter q c l, List.filter_cons, List.filter_replicate]
    cases q a <;> simp
theorem count_all (W : List Nat) (b j : Nat) (hn : W.length ≤ 5) (hj : j < W.length) : ((TT W.length j).filter (ownP W b j)).length = dv W b j := by
  have p := List.isPerm_iff.mp (perm_all W.length (by omega) j hj)
  rw [(p.filter _).length_eq]
  unfold RR
  rw [flat_filter, List.filter_filter]
  unfold dv sz own
  rw [List.map_map]
  have e : (List.range (2 ^ W.length)).filter (fun a => ownP W b j a && tb a j) = (List.range (2 ^ W.length)).filter (ownP W b j) := by
    refine List.filter_congr fun a _ => ?_
    unfold ownP tb
    cases decide (a / 2 ^ j % 2 = 1) <;> simp
  rw [e]
  congr 1
  refine List.map_congr_left fun a ha => ?_
  have h2 : a < 2 ^ W.length := by
    have := (List.mem_filter.mp ha).1
    simpa using this
  have h3 := Nat.pow_le_pow_right (n := 2) (by decide) hn
  have := pc5_eq (p := a) (by omega)
  show _ = fct (pcN a - 1) * fct (W.length - pcN a)
  rw [this]
theorem flat_len {α β : Type} (f : α → List β) (q : β → Bool) : ∀ l : List α, ((l.flatMap f).filter q).length = (l.map fun a => ((f a).filter q).length).sum
  | [] => rfl
  | a :: l => by
    rw [List.flatMap_cons, List.filter_append, List.length_append, flat_len f q l, List.map_cons, List.sum_cons]
theorem hits_all (W : List Nat) (b j : Nat) (hn : W.length ≤ 5) (hj : j < W.length) : ((ordersL W.length).map (hits W b j 0)).sum = dv W b j := by
  rw [← count_all W b j hn hj]
  unfold TT
  rw [flat_len]
  congr 1
  refine List.map_congr_left fun o ho => ?_
  have c := List.all_eq_true.mp (chk_all W.length (by omega)) o ho
  have h0 : sm W W.length 0 = 0 := by
    unfold sm
    have : (List.range W.length).filter (tb 0) = [] := by
      rw [List.filter_eq_nil_iff]
      intro k _
      simp [tb]
    rw [this]
    rfl
  have := hits_pos W b j hn o 0 c
  rw [h0] at this
  exact this
theorem dv_le (W : List Nat) (b j : Nat) (hn : W.length ≤ 5) (hj : j < W.length) : dv W b j ≤ 1000 := by
  rw [← count_all W b j hn hj]
  exact Nat.le_trans (List.length_filter_le _ _) (tt_len W.length (by omega) j hj)
/-! the law's loops -/
def inn (W : List Nat) (b : Nat) (st : List Nat × Nat) (k : Nat) : List Nat × Nat := (if st.2 < b ∧ b ≤ st.2 + wt W k then st.1.set k (st.1.getD k 0 + 1) else st.1, st.2 + wt W k)
def out (W : List Nat) (b : Nat) (d : List Nat) (o : List Nat) : List Nat := (o.foldl (inn W b) (d, 0)).1
theorem inn_len (W : List Nat) (b : Nat) : ∀ (o : List Nat) (st : List Nat × Nat), (o.foldl (inn W b) st).1.length = st.1.length
  | [], st => rfl
  | k :: o, st => by
    rw [List.foldl_cons, inn_len W b o]
    unfold inn
    split <;> simp
theorem inn_at (W : List Nat) (b j : Nat) : ∀ (o : List Nat) (st : List Nat × Nat), (∀ k ∈ o, k < st.1.length) → (o.foldl (inn W b) st).1.getD j 0 = st.1.getD j 0 + hits W b j st.2 o
  | [], st, _ => rfl
  | k :: o, st, h => by
    have hk := h k List.mem_cons_self
    have hl : (inn W b st k).1.length = st.1.length := by
      unfold inn
      split <;> simp
    rw [List.foldl_cons, inn_at W b j o _ (fun i hi => by rw [hl]; exact h i (List.mem_cons_of_mem _ hi)), hits]
    have e : (inn W b st k).1.getD j 0 = st.1.getD j 0 + if k = j ∧ st.2 < b ∧ b ≤ st.2 + wt W k then 1 else 0 := by
      unfold inn
      by_cases c : st.2 < b ∧ b ≤ st.2 + wt W k
      · by_cases hkj : k = j
        · subst hkj
          simp only [c, and_self, if_true]
          rw [List.getD_eq_getElem?_getD, List.getElem?_set_self hk]
          rfl
        · simp only [c, and_self, if_true, hkj, false_and, if_false]
          rw [List.getD_eq_getElem?_getD, List.getElem?_set_ne hkj, List.getD_eq_getElem?_getD]
          rfl
      · have c2 : ¬ (k = j ∧ st.2 < b ∧ b ≤ st.2 + wt W k) := fun z => c z.2
        rw [if_neg c2]
        simp only [if_neg c]
        rfl
    rw [e]
    show _ + hits W b j (st.2 + wt W k) o = _
    omega
theorem out_at (W : List Nat) (b j : Nat) : ∀ (os : List (List Nat)) (d : List Nat), (∀ o ∈ os, ∀ k ∈ o, k < d.length) → (os.foldl (out W b) d).length = d.length ∧ (os.foldl (out W b) d).getD j 0 = d.getD j 0 + (os.map (hits W b j 0)).sum
  | [], d, _ => ⟨rfl, rfl⟩
  | o :: os, d, h => by
    have hl : (out W b d o).length = d.length := inn_len W b o (d, 0)
    obtain ⟨a, c⟩ := out_at W b j os (out W b d o) (fun o' ho k hk => by rw [hl]; exact h o' (List.mem_cons_of_mem _ ho) k hk)
    rw [List.foldl_cons]
    refine ⟨a.trans hl, ?_⟩
    rw [c, List.map_cons, List.sum_cons]
    have : (out W b d o).getD j 0 = d.getD j 0 + hits W b j 0 o := inn_at W b j o (d, 0) (h o List.mem_cons_self)
    rw [this]
    omega
theorem out_all (W : List Nat) (b : Nat) (hn : W.length ≤ 5) : (ordersL W.length).foldl (out W b) (List.replicate W.length 0) = dvL W b := by
  have hlt : ∀ o ∈ ordersL W.length, ∀ k ∈ o, k < (List.replicate W.length 0).length := fun o ho k hk => by
    have := List.all_eq_true.mp (List.all_eq_true.mp (lt_all W.length (by omega)) o ho) k hk
    simpa using this
  refine List.ext_getElem ?_ fun j h1 h2 => ?_
  · rw [(out_at W b 0 _ _ hlt).1]
    unfold dvL
    simp
  · have hj : j < W.length := by
      unfold dvL at h2
      simpa using h2
    have e := (out_at W b j _ _ hlt).2
    rw [hits_all W b j hn hj] at e
    rw [List.getD_eq_getElem?_getD, List.getElem?_eq_getElem h1] at e
    have z : (List.replicate W.length 0).getD j 0 = 0 := by
      rw [List.getD_eq_getElem?_getD, List.getElem?_replicate, if_pos hj]
      rfl
    rw [z, Nat.zero_add] at e
    have e2 : (dvL W b)[j]? = some (dv W b j) := by
      unfold dvL
      rw [List.getElem?_map, List.getElem?_range hj]
      rfl
    rw [List.getElem?_eq_getElem h2] at e2
    exact (show (List.foldl (out W b) (List.replicate W.length 0) (ordersL W.length))[j] = dv W b j from e).trans (Option.some.inj e2).symm
end K19
namespace K19
open PySem EV
theorem m15 : G.fns[15]? = some fMixed := rfl
theorem d17 : G.fns[17]? = some (fDraw2 15) := rfl
section
variable (s0 s1 s2 s3 s4 s5 s6 s7 s8 s9 s10 s11 s12 s13 s14 s15 s16 : Sl)
theorem w0 (k : Nat) (hk : 2 ≤ k) (l : List Nat) (at_ n : Nat) (hs : small l) (hl : l.length ≤ 4000) (ha : at_ ≤ 1000) (hn : n ≤ 5) : ∃ W : List Nat, W.length = n ∧ (∀ w ∈ W, w ≤ 1000) ∧ (evR G (fnEval G k) F26c0).f [s0, .ow (drD l at_), .sh (nD n), s3, s4, s5, s6, s7, s8, s9, s10, s11, s12, s13, s14, s15, s16] = .ok (rowsD W, true) [s0, .ow (drD l (at_ + 2 * n)), .sh (nD n), s3, s4, s5, s6, s7, s8, s9, s10, s11, s12, s13, s14, s15, s16] := by
  obtain ⟨ys, e', k1, k2, k3, x, k4⟩ := comp_some (vs := [13]) (tg := .nm 13) (test := (evR G (fnEval G k) .nop).t) (elt := (evR G (fnEval G k) (.call 17 (.cons (.var 1) (.cons (.ix (.lst (.cons (.lit (.int 3)) (.cons (.lit (.int 10)) (.cons (.lit (.int 1001)) .nil)))) (.call 17 (.cons (.var 1) (.cons (.lit (.int 3)) .nil)))) .nil)))).f)
    (fun d => ∃ w, d = nD w ∧ w ≤ 1000) (fun j e => ∃ x, e = [s0, .ow (drD l (at_ + 2 * j)), .sh (nD n), s3, s4, s5, s6, s7, s8, s9, s10, s11, s12, x, s14, s15, s16]) (rngL 0 n) [] 0 [s0, .ow (drD l at_), .sh (nD n), s3, s4, s5, s6, s7, s8, s9, s10, s11, s12, s13, s14, s15, s16] (by rw [rng_len, sizeLine_eq]; simp; omega) ⟨_, rfl⟩ fun j d hd e ⟨x, hx⟩ => by
      subst hx
      have hlt : j < n := by
        have := (List.getElem?_eq_some_iff.mp hd).1
        rwa [rng_len] at this
      rw [Nat.zero_add]
      obtain ⟨v, hv, g⟩ := draw2_call m15 d17 k 1 l (at_ + 2 * j) 3 hs hl (by omega) (by omega) hk (.lit (.int 3)) [s0, .ow (drD l (at_ + 2 * j)), .sh (nD n), s3, s4, s5, s6, s7, s8, s9, s10, s11, s12, .sh d, s14, s15, s16] rfl rfl
      have hq : ∃ q, q ≤ 1001 ∧ 0 < q ∧ (evR G (fnEval G k) (.ix (.lst (.cons (.lit (.int 3)) (.cons (.lit (.int 10)) (.cons (.lit (.int 1001)) .nil)))) (.call 17 (.cons (.var 1) (.cons (.lit (.int 3)) .nil))))).b [s0, .ow (drD l (at_ + 2 * j)), .sh (nD n), s3, s4, s5, s6, s7, s8, s9, s10, s11, s12, .sh d, s14, s15, s16] = .ok (.dat (nD q)) [s0, .ow (drD l (at_ + 2 * j + 1)), .sh (nD n), s3, s4, s5, s6, s7, s8, s9, s10, s11, s12, .sh d, s14, s15, s16] := by
        have gb := call_b g
        generalize SE.call 17 (.cons (.var 1) (.cons (.lit (.int 3)) .nil)) = c at gb ⊢
        have : v = 0 ∨ v = 1 ∨ v = 2 := by omega
        rcases this with rfl | rfl | rfl
        · exact ⟨3, by decide, by decide, by simp [gb, exR, evR, lineOk, sizeLine_eq, ofX, ofF, noR, R.out, R.bind, R.of, with1, with2, withs, Bor.res, Bor.frz, ress, frzs, bl2, dat, Sl.get?, Sl.frz, mkSl, Out.res, Res.put, mkArgs, ioAt, doCall, putIos, nd0, nd1, ndl, ndc, nAdd, nSub, nMul, nDiv, nMod, nShl, nShr, nAnd, nXor, nPow, sAdd, lAdd, rAdd, tAdd, lMul, sMul, cEqN, cEqS, cEqB, cNeN, cNeS, cNeB, cLt, cLe, cGt, cGe, cIs, cIsN, isNonN, isNonS, isNonL, isNonR, isNonT, isNonB, isNon0, inS, ninS, tN, tB, tL, tT, tR, t0, bLenL, bLenT, bLenR, bLenS, bIntN, bMin, bMax, bSum, bLstL, bLstT, bTupL, bTupT, ixL, ixT, ixR, ixS, isiN, isiR, flatN, flatR, mutN, mutR, itR, itL, itT, itS, cNilR, cNilN, cNilL, cNilM, meTyJ, inR, ninR, flat0, flatB, flatI, flatS, flatF, flatL, flatT, flatD, mut0, mutB, mutI, mutS, mutF, mutL, mutT, mutD, isi0, isiB, isiI, isiS, isiL, isiT, isiDc, muOk, muTyR, muTyL, muAR, muAL, rMul, setR, bAbs]⟩
        · exact ⟨10, by decide, by decide, by simp [gb, exR, evR, lineOk, sizeLine_eq, ofX, ofF, noR, R.out, R.bind, R.of, with1, with2, withs, Bor.res, Bor.frz, ress, frzs, bl2, dat, Sl.get?, Sl.frz, mkSl, Out.res, Res.put, mkArgs, ioAt, doCall, putIos, nd0, nd1, ndl, ndc, nAdd, nSub, nMul, nDiv, nMod, nShl, nShr, nAnd, nXor, nPow, sAdd, lAdd, rAdd, tAdd, lMul, sMul, cEqN, cEqS, cEqB, cNeN, cNeS, cNeB, cLt, cLe, cGt, cGe, cIs, cIsN, isNonN, isNonS, isNonL, isNonR, isNonT, isNonB, isNon0, inS, ninS, tN, tB, tL, tT, tR, t0, bLenL, bLenT, bLenR, bLenS, bIntN, bMin, bMax, bSum, bLstL, bLstT, bTupL, bTupT, ixL, ixT, ixR, ixS, isiN, isiR, flatN, flatR, mutN, mutR, itR, itL, itT, itS, cNilR, cNilN, cNilL, cNilM, meTyJ, inR, ninR, flat0, flatB, flatI, flatS, flatF, flatL, flatT, flatD, mut0, mutB, mutI, mutS, mutF, mutL, mutT, mutD, isi0, isiB, isiI, isiS, isiL, isiT, isiDc, muOk, muTyR, muTyL, muAR, muAL, rMul, setR, bAbs]⟩
        · exact ⟨1001, by decide, by decide, by simp [gb, exR, evR, lineOk, sizeLine_eq, ofX, ofF, noR, R.out, R.bind, R.of, with1, with2, withs, Bor.res, Bor.frz, ress, frzs, bl2, dat, Sl.get?, Sl.frz, mkSl, Out.res, Res.put, mkArgs, ioAt, doCall, putIos, nd0, nd1, ndl, ndc, nAdd, nSub, nMul, nDiv, nMod, nShl, nShr, nAnd, nXor, nPow, sAdd, lAdd, rAdd, tAdd, lMul, sMul, cEqN, cEqS, cEqB, cNeN, cNeS, cNeB, cLt, cLe, cGt, cGe, cIs, cIsN, isNonN, isNonS, isNonL, isNonR, isNonT, isNonB, isNon0, inS, ninS, tN, tB, tL, tT, tR, t0, bLenL, bLenT, bLenR, bLenS, bIntN, bMin, bMax, bSum, bLstL, bLstT, bTupL, bTupT, ixL, ixT, ixR, ixS, isiN, isiR, flatN, flatR, mutN, mutR, itR, itL, itT, itS, cNilR, cNilN, cNilL, cNilM, meTyJ, inR, ninR, flat0, flatB, flatI, flatS, flatF, flatL, flatT, flatD, mut0, mutB, mutI, mutS, mutF, mutL, mutT, mutD, isi0, isiB, isiI, isiS, isiL, isiT, isiDc, muOk, muTyR, muTyL, muAR, muAL, rMul, setR, bAbs]⟩
      obtain ⟨q, q1, q2, hq⟩ := hq
      obtain ⟨w, hw, g2⟩ := draw2_any m15 d17 k 1 l (at_ + 2 * j + 1) q hs hl (by omega) q2 hk _ _ _ _ rfl hq rfl
      refine ⟨[s0, .ow (drD l (at_ + 2 * j)), .sh (nD n), s3, s4, s5, s6, s7, s8, s9, s10, s11, s12, .sh d, s14, s15, s16], [s0, .ow (drD l (at_ + 2 * j)), .sh (nD n), s3, s4, s5, s6, s7, s8, s9, s10, s11, s12, .sh d, s14, s15, s16], (nD w, false), [s0, .ow (drD l (at_ + 2 * j + 1 + 1)), .sh (nD n), s3, s4, s5, s6, s7, s8, s9, s10, s11, s12, .sh d, s14, s15, s16], rfl, rfl, g2, ⟨w, rfl, by omega⟩, .sh d, ?_⟩
      rw [show at_ + 2 * (j + 1) = at_ + 2 * j + 1 + 1 by omega]
  subst k4
  rw [rng_len] at k2 k1
  have hys : ∃ W : List Nat, ys = W.map nD ∧ ∀ w ∈ W, w ≤ 1000 := by
    clear k1 k2
    induction ys with
    | nil => exact ⟨[], rfl, fun w hw => nomatch hw⟩
    | cons y ys ih =>
      obtain ⟨c, rfl, hc⟩ := k3 y List.mem_cons_self
      obtain ⟨t, rfl, ht⟩ := ih fun z hz => k3 z (List.mem_cons_of_mem _ hz)
      refine ⟨c :: t, rfl, fun w hw => ?_⟩
      rcases List.mem_cons.mp hw with rfl | hw
      · exact hc
      · exact ht w hw
  obtain ⟨W, rfl, hW⟩ := hys
  rw [List.length_map] at k2
  rw [Nat.zero_add] at k1
  refine ⟨W, k2, hW, ?_⟩
  exact comp_ok (G := G) (call := fnEval G k) (own := [("k", 13)]) (it := .rng1 (.var 2)) (e := [s0, .ow (drD l at_), .sh (nD n), s3, s4, s5, s6, s7, s8, s9, s10, s11, s12, s13, s14, s15, s16]) (e1 := [s0, .ow (drD l at_), .sh (nD n), s3, s4, s5, s6, s7, s8, s9, s10, s11, s12, s13, s14, s15, s16]) (by
      rw [rng1_i (n := n) (fr := false) rfl (by omega), rng_range]) k1 rfl
/-- 1 + a draw, and the like -/
theorem b0 (k : Nat) (hk : 2 ≤ k) (l : List Nat) (at_ : Nat) (W : List Nat) (hs : small l) (hl : l.length ≤ 4000) (ha : at_ ≤ 1000) (hW : W.sum ≤ 5000) : ∃ b : Nat, 1 ≤ b ∧ b ≤ 10000 ∧ (evR G (fnEval G k) (.ix (.lst (.cons (.bin .Add (.lit (.int 1)) (.call 17 (.cons (.var 1) (.cons (.lit (.int 12)) .nil)))) (.cons (.bi .max2 (.cons (.bi .sum (.cons (.var 3) .nil)) (.cons (.lit (.int 1)) .nil))) (.cons (.bin .Add (.lit (.int 1)) (.bi .sum (.cons (.var 3) .nil))) (.cons (.bi .max2 (.cons (.bin .FloorDiv (.bi .sum (.cons (.var 3) .nil)) (.lit (.int 2))) (.cons (.lit (.int 1)) .nil))) .nil))))) (.call 17 (.cons (.var 1) (.cons (.lit (.int 4)) .nil))))).f [s0, .ow (drD l at_), s2, .ow (rowsD W), s4, s5, s6, s7, s8, s9, s10, s11, s12, s13, s14, s15, s16] = .ok (nD b, false) [s0, .ow (drD l (at_ + 2)), s2, .ow (rowsD W), s4, s5, s6, s7, s8, s9, s10, s11, s12, s13, s14, s15, s16] := by
  obtain ⟨v, hv, g⟩ := draw2_call m15 d17 k 1 l at_ 12 hs hl (by omega) (by omega) hk (.lit (.int 12)) [s0, .ow (drD l at_), s2, .ow (rowsD W), s4, s5, s6, s7, s8, s9, s10, s11, s12, s13, s14, s15, s16] rfl rfl
  obtain ⟨u, hu, g2⟩ := draw2_call m15 d17 k 1 l (at_ + 1) 4 hs hl (by omega) (by omega) hk (.lit (.int 4)) [s0, .ow (drD l (at_ + 1)), s2, .ow (rowsD W), s4, s5, s6, s7, s8, s9, s10, s11, s12, s13, s14, s15, s16] rfl rfl
  have gb := call_b g
  have gb2 := call_b g2
  have gb : (evR G (fnEval G k) (.call 17 (.cons (.var 1) (.cons (.lit (.int 12)) .nil)))).b [s0, .ow (drD l at_), s2, .ow (rowsD W), s4, s5, s6, s7, s8, s9, s10, s11, s12, s13, s14, s15, s16] = .ok (.dat (nD v)) [s0, .ow (drD l (at_ + 1)), s2, .ow (rowsD W), s4, s5, s6, s7, s8, s9, s10, s11, s12, s13, s14, s15, s16] := gb
  have gb2 : (evR G (fnEval G k) (.call 17 (.cons (.var 1) (.cons (.lit (.int 4)) .nil)))).b [s0, .ow (drD l (at_ + 1)), s2, .ow (rowsD W), s4, s5, s6, s7, s8, s9, s10, s11, s12, s13, s14, s15, s16] = .ok (.dat (nD u)) [s0, .ow (drD l (at_ + 2)), s2, .ow (rowsD W), s4, s5, s6, s7, s8, s9, s10, s11, s12, s13, s14, s15, s16] := gb2
  have hL : ∀ i, i < 4 → 1 ≤ [1 + v, max W.sum 1, 1 + W.sum, max (W.sum / 2) 1].getD i 0 ∧ [1 + v, max W.sum 1, 1 + W.sum, max (W.sum / 2) 1].getD i 0 ≤ 10000 := by
    intro i hi
    have : i = 0 ∨ i = 1 ∨ i = 2 ∨ i = 3 := by omega
    rcases this with rfl | rfl | rfl | rfl <;> simp <;> omega
  refine ⟨[1 + v, max W.sum 1, 1 + W.sum, max (W.sum / 2) 1].getD u 0, (hL u hu).1, (hL u hu).2, ?_⟩
  generalize SE.call 17 (.cons (.var 1) (.cons (.lit (.int 12)) .nil)) = c1 at gb ⊢
  generalize SE.call 17 (.cons (.var 1) (.cons (.lit (.int 4)) .nil)) = c2 at gb2 ⊢
  have ix := ixR (l := [1 + v, max W.sum 1, 1 + W.sum, max (W.sum / 2) 1]) (j := u) hu
  generalize [1 + v, max W.sum 1, 1 + W.sum, max (W.sum / 2) 1].getD u 0 = b at ix ⊢
  simp only [rowsD, List.map_cons, List.map_nil] at ix
  simp [gb, gb2, ix, exR, evR, lineOk, sizeLine_eq, ofX, ofF, noR, R.out, R.bind, R.of, with1, with2, withs, Bor.res, Bor.frz, ress, frzs, bl2, dat, Sl.get?, Sl.frz, mkSl, Out.res, Res.put, mkArgs, ioAt, doCall, putIos, nd0, nd1, ndl, ndc, nAdd, nSub, nMul, nDiv, nMod, nShl, nShr, nAnd, nXor, nPow, sAdd, lAdd, rAdd, tAdd, lMul, sMul, cEqN, cEqS, cEqB, cNeN, cNeS, cNeB, cLt, cLe, cGt, cGe, cIs, cIsN, isNonN, isNonS, isNonL, isNonR, isNonT, isNonB, isNon0, inS, ninS, tN, tB, tL, tT, tR, t0, bLenL, bLenT, bLenR, bLenS, bIntN, bMin, bMax, bSum, bLstL, bLstT, bTupL, bTupT, ixL, ixT, ixR, ixS, isiN, isiR, flatN, flatR, mutN, mutR, itR, itL, itT, itS, cNilR, cNilN, cNilL, cNilM, meTyJ, inR, ninR, flat0, flatB, flatI, flatS, flatF, flatL, flatT, flatD, mut0, mutB, mutI, mutS, mutF, mutL, mutT, mutD, isi0, isiB, isiI, isiS, isiL, isiT, isiDc, muOk, muTyR, muTyL, muAR, muAL, rMul, setR, bAbs]
section
variable (k : Nat) (hk : 3 ≤ k) {W : List Nat} {b : Nat} (v : Vote W b)
include hk v
def winD (W : List Nat) (b : Nat) : D := .lst ((List.range (2 ^ W.length)).map fun p => .bl (decide (b ≤ sm W W.length p)))
theorem w1 (p : Nat) (s3 : Sl) (h3 : s3 = .ow (rowsD W) ∨ s3 = .sh (rowsD W)) : (evR G (fnEval G k) F26c1).f [s0, s1, .sh (nD W.length), s3, .sh (nD b), s5, s6, s7, s8, s9, s10, s11, s12, s13, s14, .sh (nD p), s16] = .ok (rowsD (((List.range W.length).filter (tb p)).map (wt W)), true) [s0, s1, .sh (nD W.length), s3, .sh (nD b), s5, s6, s7, s8, s9, s10, s11, s12, s13, s14, .sh (nD p), s16] := by
  rw [← rows_map]
  have l2 := v.l2
  refine comp_det (List.range W.length) nD (tb p) (fun k => nD (wt W k)) (rng1_i (fr := false) rfl (by omega)) (by simp; omega) (fun j hj => ?_) (fun j hj _ => ⟨false, ?_⟩)
  · have bo := lbit_ok k p j (by omega)
    unfold tb
    simp [bo, exR, evR, lineOk, sizeLine_eq, ofX, ofF, noR, R.out, R.bind, R.of, with1, with2, withs, Bor.res, Bor.frz, ress, frzs, bl2, dat, Sl.get?, Sl.frz, mkSl, Out.res, Res.put, mkArgs, ioAt, doCall, putIos, nd0, nd1, ndl, ndc, nAdd, nSub, nMul, nDiv, nMod, nShl, nShr, nAnd, nXor, nPow, sAdd, lAdd, rAdd, tAdd, lMul, sMul, cEqN, cEqS, cEqB, cNeN, cNeS, cNeB, cLt, cLe, cGt, cGe, cIs, cIsN, isNonN, isNonS, isNonL, isNonR, isNonT, isNonB, isNon0, inS, ninS, tN, tB, tL, tT, tR, t0, bLenL, bLenT, bLenR, bLenS, bIntN, bMin, bMax, bSum, bLstL, bLstT, bTupL, bTupT, ixL, ixT, ixR, ixS, isiN, isiR, flatN, flatR, mutN, mutR, itR, itL, itT, itS, cNilR, cNilN, cNilL, cNilM, meTyJ, inR, ninR, flat0, flatB, flatI, flatS, flatF, flatL, flatT, flatD, mut0, mutB, mutI, mutS, mutF, mutL, mutT, mutD, isi0, isiB, isiI, isiS, isiL, isiT, isiDc, muOk, muTyR, muTyL, muAR, muAL, rMul, setR, bAbs]
  · have i := ixR (l := W) (j := j) (by simpa using hj)
    unfold wt
    generalize W.getD j 0 = w at i ⊢
    rcases h3 with rfl | rfl <;> simp [i, exR, evR, lineOk, sizeLine_eq, ofX, ofF, noR, R.out, R.bind, R.of, with1, with2, withs, Bor.res, Bor.frz, ress, frzs, bl2, dat, Sl.get?, Sl.frz, mkSl, Out.res, Res.put, mkArgs, ioAt, doCall, putIos, nd0, nd1, ndl, ndc, nAdd, nSub, nMul, nDiv, nMod, nShl, nShr, nAnd, nXor, nPow, sAdd, lAdd, rAdd, tAdd, lMul, sMul, cEqN, cEqS, cEqB, cNeN, cNeS, cNeB, cLt, cLe, cGt, cGe, cIs, cIsN, isNonN, isNonS, isNonL, isNonR, isNonT, isNonB, isNon0, inS, ninS, tN, tB, tL, tT, tR, t0, bLenL, bLenT, bLenR, bLenS, bIntN, bMin, bMax, bSum, bLstL, bLstT, bTupL, bTupT, ixL, ixT, ixR, ixS, isiN, isiR, flatN, flatR, mutN, mutR, itR, itL, itT, itS, cNilR, cNilN, cNilL, cNilM, meTyJ, inR, ninR, flat0, flatB, flatI, flatS, flatF, flatL, flatT, flatD, mut0, mutB, mutI, mutS, mutF, mutL, mutT, mutD, isi0, isiB, isiI, isiS, isiL, isiT, isiDc, muOk, muTyR, muTyL, muAR, muAL, rMul, setR, bAbs]
theorem w2 (s3 : Sl) (h3 : s3 = .ow (rowsD W) ∨ s3 = .sh (rowsD W)) : (evR G (fnEval G k) F26c2).f [s0, s1, .sh (nD W.length), s3, .sh (nD b), s5, s6, s7, s8, s9, s10, s11, s12, s13, s14, s15, s16] = .ok (winD W b, true) [s0, s1, .sh (nD W.length), s3, .sh (nD b), s5, s6, s7, s8, s9, s10, s11, s12, s13, s14, s15, s16] := by
  have l2 := v.l2
  have hp := pow10 (show W.length ≤ 10 by omega)
  have l9 : W.length ≤ 1000000 := by omega
  refine comp_all (List.range (2 ^ W.length)) nD (fun p => .bl (decide (b ≤ sm W W.length p))) (rng1_i (fr := false) (by simp [l9, exR, evR, lineOk, sizeLine_eq, ofX, ofF, noR, R.out, R.bind, R.of, with1, with2, withs, Bor.res, Bor.frz, ress, frzs, bl2, dat, Sl.get?, Sl.frz, mkSl, Out.res, Res.put, mkArgs, ioAt, doCall, putIos, nd0, nd1, ndl, ndc, nAdd, nSub, nMul, nDiv, nMod, nShl, nShr, nAnd, nXor, nPow, sAdd, lAdd, rAdd, tAdd, lMul, sMul, cEqN, cEqS, cEqB, cNeN, cNeS, cNeB, cLt, cLe, cGt, cGe, cIs, cIsN, isNonN, isNonS, isNonL, isNonR, isNonT, isNonB, isNon0, inS, ninS, tN, tB, tL, tT, tR, t0, bLenL, bLenT, bLenR, bLenS, bIntN, bMin, bMax, bSum, bLstL, bLstT, bTupL, bTupT, ixL, ixT, ixR, ixS, isiN, isiR, flatN, flatR, mutN, mutR, itR, itL, itT, itS, cNilR, cNilN, cNilL, cNilM, meTyJ, inR, ninR, flat0, flatB, flatI, flatS, flatF, flatL, flatT, flatD, mut0, mutB, mutI, mutS, mutF, mutL, mutT, mutD, isi0, isiB, isiI, isiS, isiL, isiT, isiDc, muOk, muTyR, muTyL, muAR, muAL, rMul, setR, bAbs]) (by omega)) (by simp; omega) (fun p hp => ⟨false, ?_⟩)
  have c := w1 s0 s1 s5 s6 s7 s8 s9 s10 s11 s12 s13 s14 s16 k hk v p s3 h3
  unfold sm
  simp [c, exR, evR, lineOk, sizeLine_eq, ofX, ofF, noR, R.out, R.bind, R.of, with1, with2, withs, Bor.res, Bor.frz, ress, frzs, bl2, dat, Sl.get?, Sl.frz, mkSl, Out.res, Res.put, mkArgs, ioAt, doCall, putIos, nd0, nd1, ndl, ndc, nAdd, nSub, nMul, nDiv, nMod, nShl, nShr, nAnd, nXor, nPow, sAdd, lAdd, rAdd, tAdd, lMul, sMul, cEqN, cEqS, cEqB, cNeN, cNeS, cNeB, cLt, cLe, cGt, cGe, cIs, cIsN, isNonN, isNonS, isNonL, isNonR, isNonT, isNonB, isNon0, inS, ninS, tN, tB, tL, tT, tR, t0, bLenL, bLenT, bLenR, bLenS, bIntN, bMin, bMax, bSum, bLstL, bLstT, bTupL, bTupT, ixL, ixT, ixR, ixS, isiN, isiR, flatN, flatR, mutN, mutR, itR, itL, itT, itS, cNilR, cNilN, cNilL, cNilM, meTyJ, inR, ninR, flat0, flatB, flatI, flatS, flatF, flatL, flatT, flatD, mut0, mutB, mutI, mutS, mutF, mutL, mutT, mutD, isi0, isiB, isiI, isiS, isiL, isiT, isiDc, muOk, muTyR, muTyL, muAR, muAL, rMul, setR, bAbs]
theorem sm_sub (p j : Nat) (hj : j < W.length) (hp : p < 2 ^ W.length) (hb : p / 2 ^ j % 2 = 1) : 2 ^ j ≤ p ∧ sm W W.length (p - 2 ^ j) + wt W j = sm W W.length p := by
  have l2 := v.l2
  have h1 : 2 ^ j ≤ p := by
    rcases Nat.lt_or_ge p (2 ^ j) with h | h
    · rw [Nat.div_eq_of_lt h] at hb
      simp at hb
    · exact h
  refine ⟨h1, ?_⟩
  have h5 := Nat.pow_le_pow_right (n := 2) (by decide) l2
  have t0 : tb (p - 2 ^ j) j = false := by
    unfold tb
    have e : p / 2 ^ j = (p - 2 ^ j) / 2 ^ j + 1 := by
      have := Nat.add_div_right (p - 2 ^ j) (z := 2 ^ j) (Nat.pow_pos (by decide))
      rw [Nat.sub_add_cancel h1] at this
      exact this
    rw [e] at hb
    exact decide_eq_false (by omega)
  have a := sm_add W (p - 2 ^ j) j (Nat.lt_of_le_of_lt (Nat.sub_le _ _) (by omega)) (by omega) t0 W.length l2
  rw [Nat.sub_add_cancel h1, if_pos hj] at a
  exact a.symm
theorem w3 (j : Nat) (hj : j < W.length) : (evR G (fnEval G k) F26c3).f [s0, s1, .sh (nD W.length), s3, s4, .ow (winD W b), s6, s7, s8, s9, s10, s11, s12, .sh (nD j), s14, s15, s16] = .ok (rowsD (own W b j), true) [s0, s1, .sh (nD W.length), s3, s4, .ow (winD W b), s6, s7, s8, s9, s10, s11, s12, .sh (nD j), s14, s15, s16] := by
  have l2 := v.l2
  have hp := pow10 (show W.length ≤ 10 by omega)
  have l9 : W.length ≤ 1000000 := by omega
  have l8 : j ≤ 1000000 := by omega
  refine comp_det (List.range (2 ^ W.length)) nD (ownP W b j) nD (rng1_i (fr := false) (by simp [l9, exR, evR, lineOk, sizeLine_eq, ofX, ofF, noR, R.out, R.bind, R.of, with1, with2, withs, Bor.res, Bor.frz, ress, frzs, bl2, dat, Sl.get?, Sl.frz, mkSl, Out.res, Res.put, mkArgs, ioAt, doCall, putIos, nd0, nd1, ndl, ndc, nAdd, nSub, nMul, nDiv, nMod, nShl, nShr, nAnd, nXor, nPow, sAdd, lAdd, rAdd, tAdd, lMul, sMul, cEqN, cEqS, cEqB, cNeN, cNeS, cNeB, cLt, cLe, cGt, cGe, cIs, cIsN, isNonN, isNonS, isNonL, isNonR, isNonT, isNonB, isNon0, inS, ninS, tN, tB, tL, tT, tR, t0, bLenL, bLenT, bLenR, bLenS, bIntN, bMin, bMax, bSum, bLstL, bLstT, bTupL, bTupT, ixL, ixT, ixR, ixS, isiN, isiR, flatN, flatR, mutN, mutR, itR, itL, itT, itS, cNilR, cNilN, cNilL, cNilM, meTyJ, inR, ninR, flat0, flatB, flatI, flatS, flatF, flatL, flatT, flatD, mut0, mutB, mutI, mutS, mutF, mutL, mutT, mutD, isi0, isiB, isiI, isiS, isiL, isiT, isiDc, muOk, muTyR, muTyL, muAR, muAL, rMul, setR, bAbs]) (by omega)) (by simp; omega) (fun p hp2 => ?_) (fun j hj _ => ⟨false, rfl⟩)
  have hp2 : p < 2 ^ W.length := by simpa using hp2
  have bo := lbit_ok k p j (by omega)
  unfold ownP
  by_cases hb : p / 2 ^ j % 2 = 1
  · obtain ⟨h1, h2⟩ := sm_sub k hk v p j hj hp2 hb
    have i1 : ixD (winD W b) (nD p) = some (.bl (decide (b ≤ sm W W.length p))) := ixRange hp2
    have i2 : ixD (winD W b) (nD (p - 2 ^ j)) = some (.bl (decide (b ≤ sm W W.length (p - 2 ^ j)))) := ixRange (Nat.lt_of_le_of_lt (Nat.sub_le _ _) hp2)
    have sb := nSub h1
    rw [hb] at bo
    have e : decide (sm W W.length p - wt W j < b) = !decide (b ≤ sm W W.length (p - 2 ^ j)) := by
      rw [← h2, Nat.add_sub_cancel]
      by_cases c : b ≤ sm W W.length (p - 2 ^ j) <;> simp [c] <;> omega
    rw [e]
    generalize winD W b = wd at i1 i2 ⊢
    by_cases c : b ≤ sm W W.length p
    · by_cases c2 : b ≤ sm W W.length (p - 2 ^ j)
      · simp [bo, hb, i1, i2, l8, sb, c, c2, exR, evR, lineOk, sizeLine_eq, ofX, ofF, noR, R.out, R.bind, R.of, with1, with2, withs, Bor.res, Bor.frz, ress, frzs, bl2, dat, Sl.get?, Sl.frz, mkSl, Out.res, Res.put, mkArgs, ioAt, doCall, putIos, nd0, nd1, ndl, ndc, nAdd, nSub, nMul, nDiv, nMod, nShl, nShr, nAnd, nXor, nPow, sAdd, lAdd, rAdd, tAdd, lMul, sMul, cEqN, cEqS, cEqB, cNeN, cNeS, cNeB, cLt, cLe, cGt, cGe, cIs, cIsN, isNonN, isNonS, isNonL, isNonR, isNonT, isNonB, isNon0, inS, ninS, tN, tB, tL, tT, tR, t0, bLenL, bLenT, bLenR, bLenS, bIntN, bMin, bMax, bSum, bLstL, bLstT, bTupL, bTupT, ixL, ixT, ixR, ixS, isiN, isiR, flatN, flatR, mutN, mutR, itR, itL, itT, itS, cNilR, cNilN, cNilL, cNilM, meTyJ, inR, ninR, flat0, flatB, flatI, flatS, flatF, flatL, flatT, flatD, mut0, mutB, mutI, mutS, mutF, mutL, mutT, mutD, isi0, isiB, isiI, isiS, isiL, isiT, isiDc, muOk, muTyR, muTyL, muAR, muAL, rMul, setR, bAbs]
      · simp [bo, hb, i1, i2, l8, sb, c, c2, exR, evR, lineOk, sizeLine_eq, ofX, ofF, noR, R.out, R.bind, R.of, with1, with2, withs, Bor.res, Bor.frz, ress, frzs, bl2, dat, Sl.get?, Sl.frz, mkSl, Out.res, Res.put, mkArgs, ioAt, doCall, putIos, nd0, nd1, ndl, ndc, nAdd, nSub, nMul, nDiv, nMod, nShl, nShr, nAnd, nXor, nPow, sAdd, lAdd, rAdd, tAdd, lMul, sMul, cEqN, cEqS, cEqB, cNeN, cNeS, cNeB, cLt, cLe, cGt, cGe, cIs, cIsN, isNonN, isNonS, isNonL, isNonR, isNonT, isNonB, isNon0, inS, ninS, tN, tB, tL, tT, tR, t0, bLenL, bLenT, bLenR, bLenS, bIntN, bMin, bMax, bSum, bLstL, bLstT, bTupL, bTupT, ixL, ixT, ixR, ixS, isiN, isiR, flatN, flatR, mutN, mutR, itR, itL, itT, itS, cNilR, cNilN, cNilL, cNilM, meTyJ, inR, ninR, flat0, flatB, flatI, flatS, flatF, flatL, flatT, flatD, mut0, mutB, mutI, mutS, mutF, mutL, mutT, mutD, isi0, isiB, isiI, isiS, isiL, isiT, isiDc, muOk, muTyR, muTyL, muAR, muAL, rMul, setR, bAbs]
    · simp [bo, hb, i1, l8, c, exR, evR, lineOk, sizeLine_eq, ofX, ofF, noR, R.out, R.bind, R.of, with1, with2, withs, Bor.res, Bor.frz, ress, frzs, bl2, dat, Sl.get?, Sl.frz, mkSl, Out.res, Res.put, mkArgs, ioAt, doCall, putIos, nd0, nd1, ndl, ndc, nAdd, nSub, nMul, nDiv, nMod, nShl, nShr, nAnd, nXor, nPow, sAdd, lAdd, rAdd, tAdd, lMul, sMul, cEqN, cEqS, cEqB, cNeN, cNeS, cNeB, cLt, cLe, cGt, cGe, cIs, cIsN, isNonN, isNonS, isNonL, isNonR, isNonT, isNonB, isNon0, inS, ninS, tN, tB, tL, tT, tR, t0, bLenL, bLenT, bLenR, bLenS, bIntN, bMin, bMax, bSum, bLstL, bLstT, bTupL, bTupT, ixL, ixT, ixR, ixS, isiN, isiR, flatN, flatR, mutN, mutR, itR, itL, itT, itS, cNilR, cNilN, cNilL, cNilM, meTyJ, inR, ninR, flat0, flatB, flatI, flatS, flatF, flatL, flatT, flatD, mut0, mutB, mutI, mutS, mutF, mutL, mutT, mutD, isi0, isiB, isiI, isiS, isiL, isiT, isiDc, muOk, muTyR, muTyL, muAR, muAL, rMul, setR, bAbs]
  · simp [bo, hb, exR, evR, lineOk, sizeLine_eq, ofX, ofF, noR, R.out, R.bind, R.of, with1, with2, withs, Bor.res, Bor.frz, ress, frzs, bl2, dat, Sl.get?, Sl.frz, mkSl, Out.res, Res.put, mkArgs, ioAt, doCall, putIos, nd0, nd1, ndl, ndc, nAdd, nSub, nMul, nDiv, nMod, nShl, nShr, nAnd, nXor, nPow, sAdd, lAdd, rAdd, tAdd, lMul, sMul, cEqN, cEqS, cEqB, cNeN, cNeS, cNeB, cLt, cLe, cGt, cGe, cIs, cIsN, isNonN, isNonS, isNonL, isNonR, isNonT, isNonB, isNon0, inS, ninS, tN, tB, tL, tT, tR, t0, bLenL, bLenT, bLenR, bLenS, bIntN, bMin, bMax, bSum, bLstL, bLstT, bTupL, bTupT, ixL, ixT, ixR, ixS, isiN, isiR, flatN, flatR, mutN, mutR, itR, itL, itT, itS, cNilR, cNilN, cNilL, cNilM, meTyJ, inR, ninR, flat0, flatB, flatI, flatS, flatF, flatL, flatT, flatD, mut0, mutB, mutI, mutS, mutF, mutL, mutT, mutD, isi0, isiB, isiI, isiS, isiL, isiT, isiDc, muOk, muTyR, muTyL, muAR, muAL, rMul, setR, bAbs]
end
end
end K19
namespace K19
open PySem EV
section
variable (s0 s1 s2 s3 s4 s5 s6 s7 s8 s9 s10 s11 s12 s13 s14 s15 s16 : Sl)
variable (k : Nat) (hk : 3 ≤ k) {W : List Nat} {b : Nat} (v : Vote W b)
include hk v
def swL (W : List Nat) (b : Nat) : List Nat := (List.range W.length).map fun j => (own W b j).length
theorem w4 : (evR G (fnEval G k) F26c4).f [s0, s1, .sh (nD W.length), s3, s4, .ow (winD W b), s6, s7, s8, s9, s10, s11, s12, s13, s14, s15, s16] = .ok (rowsD (swL W b), true) [s0, s1, .sh (nD W.length), s3, s4, .ow (winD W b), s6, s7, s8, s9, s10, s11, s12, s13, s14, s15, s16] := by
  unfold swL
  rw [← rows_map]
  have l2 := v.l2
  refine comp_all (List.range W.length) nD (fun j => nD (own W b j).length) (rng1_i (fr := false) rfl (by omega)) (by simp; omega) (fun j hj => ⟨false, ?_⟩)
  have c := w3 s0 s1 s3 s4 s6 s7 s8 s9 s10 s11 s12 s14 s15 s16 k hk v j (by simpa using hj)
  simp [c, exR, evR, lineOk, sizeLine_eq, ofX, ofF, noR, R.out, R.bind, R.of, with1, with2, withs, Bor.res, Bor.frz, ress, frzs, bl2, dat, Sl.get?, Sl.frz, mkSl, Out.res, Res.put, mkArgs, ioAt, doCall, putIos, nd0, nd1, ndl, ndc, nAdd, nSub, nMul, nDiv, nMod, nShl, nShr, nAnd, nXor, nPow, sAdd, lAdd, rAdd, tAdd, lMul, sMul, cEqN, cEqS, cEqB, cNeN, cNeS, cNeB, cLt, cLe, cGt, cGe, cIs, cIsN, isNonN, isNonS, isNonL, isNonR, isNonT, isNonB, isNon0, inS, ninS, tN, tB, tL, tT, tR, t0, bLenL, bLenT, bLenR, bLenS, bIntN, bMin, bMax, bSum, bLstL, bLstT, bTupL, bTupT, ixL, ixT, ixR, ixS, isiN, isiR, flatN, flatR, mutN, mutR, itR, itL, itT, itS, cNilR, cNilN, cNilL, cNilM, meTyJ, inR, ninR, flat0, flatB, flatI, flatS, flatF, flatL, flatT, flatD, mut0, mutB, mutI, mutS, mutF, mutL, mutT, mutD, isi0, isiB, isiI, isiS, isiL, isiT, isiDc, muOk, muTyR, muTyL, muAR, muAL, rMul, setR, bAbs]
theorem w5 (h6 : s6 = .ow (rowsD (swL W b)) ∨ s6 = .sh (rowsD (swL W b))) : (evR G (fnEval G k) F26c5).f [s0, s1, .sh (nD W.length), s3, s4, s5, s6, s7, s8, s9, s10, s11, s12, s13, s14, s15, s16] = .ok (rowsD ((List.range W.length).filter fun j => (sz W b j).isEmpty), true) [s0, s1, .sh (nD W.length), s3, s4, s5, s6, s7, s8, s9, s10, s11, s12, s13, s14, s15, s16] := by
  have l2 := v.l2
  refine comp_det (List.range W.length) nD (fun j => (sz W b j).isEmpty) nD (rng1_i (fr := false) rfl (by omega)) (by simp; omega) (fun j hj => ?_) (fun j _ _ => ⟨false, rfl⟩)
  have hj : j < W.length := by simpa using hj
  have i := ixR (l := swL W b) (j := j) (by unfold swL; simpa using hj)
  have e : (swL W b).getD j 0 = (own W b j).length := by
    unfold swL
    rw [List.getD_eq_getElem?_getD, List.getElem?_map, List.getElem?_range hj]
    rfl
  rw [e] at i
  have e2 : (sz W b j).isEmpty = decide ((own W b j).length = 0) := by
    unfold sz
    rw [List.isEmpty_map]
    cases own W b j <;> rfl
  rw [e2]
  generalize (own W b j).length = q at i ⊢
  rcases h6 with rfl | rfl <;> simp [i, exR, evR, lineOk, sizeLine_eq, ofX, ofF, noR, R.out, R.bind, R.of, with1, with2, withs, Bor.res, Bor.frz, ress, frzs, bl2, dat, Sl.get?, Sl.frz, mkSl, Out.res, Res.put, mkArgs, ioAt, doCall, putIos, nd0, nd1, ndl, ndc, nAdd, nSub, nMul, nDiv, nMod, nShl, nShr, nAnd, nXor, nPow, sAdd, lAdd, rAdd, tAdd, lMul, sMul, cEqN, cEqS, cEqB, cNeN, cNeS, cNeB, cLt, cLe, cGt, cGe, cIs, cIsN, isNonN, isNonS, isNonL, isNonR, isNonT, isNonB, isNon0, inS, ninS, tN, tB, tL, tT, tR, t0, bLenL, bLenT, bLenR, bLenS, bIntN, bMin, bMax, bSum, bLstL, bLstT, bTupL, bTupT, ixL, ixT, ixR, ixS, isiN, isiR, flatN, flatR, mutN, mutR, itR, itL, itT, itS, cNilR, cNilN, cNilL, cNilM, meTyJ, inR, ninR, flat0, flatB, flatI, flatS, flatF, flatL, flatT, flatD, mut0, mutB, mutI, mutS, mutF, mutL, mutT, mutD, isi0, isiB, isiI, isiS, isiL, isiT, isiDc, muOk, muTyR, muTyL, muAR, muAL, rMul, setR, bAbs]
theorem w6 (o : List Nat) (ho : ∀ k ∈ o, k < W.length) (d : List Nat) (hd : d.length = W.length) : ∃ x y, (exR G (fnEval G k) [] F26l0).x [s0, s1, s2, .sh (rowsD W), .sh (nD b), s5, s6, .ow (rowsD d), s8, .sh (rowsD o), s10, s11, .sh (nD 0), s13, s14, s15, s16] = .nx [s0, s1, s2, .sh (rowsD W), .sh (nD b), s5, s6, .ow (rowsD (out W b d o)), s8, .sh (rowsD o), s10, s11, x, y, s14, s15, s16] := by
  obtain ⟨e', k1, y, k2⟩ := for_thru (tg := .nm 13) (body := (exR G (fnEval G k) [] F26b0).x) (fun i e => ∃ y, e = [s0, s1, s2, .sh (rowsD W), .sh (nD b), s5, s6, .ow (rowsD ((o.take i).foldl (inn W b) (d, 0)).1), s8, .sh (rowsD o), s10, s11, .sh (nD ((o.take i).foldl (inn W b) (d, 0)).2), y, s14, s15, s16]) (o.map nD) 0 [s0, s1, s2, .sh (rowsD W), .sh (nD b), s5, s6, .ow (rowsD d), s8, .sh (rowsD o), s10, s11, .sh (nD 0), s13, s14, s15, s16] ⟨_, rfl⟩ fun j dd e hj ⟨y, hx⟩ => by
    subst hx
    have hlt : j < o.length := by
      have := (List.getElem?_eq_some_iff.mp hj).1
      simpa using this
    rw [List.getElem?_map, List.getElem?_eq_getElem hlt] at hj
    have hdd : dd = nD o[j] := by simpa using hj.symm
    subst hdd
    rw [Nat.zero_add]
    have hq := ho o[j] (List.getElem_mem hlt)
    have e1 : o.take (j + 1) = o.take j ++ [o[j]] := by simp
    have dl := inn_len W b (o.take j) (d, 0)
    rw [e1, List.foldl_append]
    generalize (o.take j).foldl (inn W b) (d, 0) = st at dl ⊢
    obtain ⟨dd, t⟩ := st
    generalize o[j] = q at hq ⊢
    have dl : dd.length = W.length := dl.trans hd
    have i1 := ixR (l := W) (j := q) hq
    have i2 := ixR (l := dd) (j := q) (by omega)
    have se := setR (l := dd) (j := q) (v := dd.getD q 0 + 1) (by omega)
    show ∃ e1 e2, _ ∧ _ ∧ ∃ y, e2 = [s0, s1, s2, .sh (rowsD W), .sh (nD b), s5, s6, .ow (rowsD (if t < b ∧ b ≤ t + wt W q then dd.set q (dd.getD q 0 + 1) else dd)), s8, .sh (rowsD o), s10, s11, .sh (nD (t + wt W q)), y, s14, s15, s16]
    unfold wt
    generalize W.getD q 0 = w at i1 ⊢
    generalize dd.getD q 0 = u at i2 se ⊢
    refine ⟨[s0, s1, s2, .sh (rowsD W), .sh (nD b), s5, s6, .ow (rowsD dd), s8, .sh (rowsD o), s10, s11, .sh (nD t), .sh (nD q), s14, s15, s16], [s0, s1, s2, .sh (rowsD W), .sh (nD b), s5, s6, .ow (rowsD (if t < b ∧ b ≤ t + w then dd.set q (u + 1) else dd)), s8, .sh (rowsD o), s10, s11, .sh (nD (t + w)), .sh (nD q), s14, s15, s16], rfl, .inl ?_, .sh (nD q), rfl⟩
    unfold F26b0
    by_cases c1 : t < b
    · by_cases c2 : b ≤ t + w
      · rw [if_pos ⟨c1, c2⟩]
        simp [i1, i2, c1, c2, se, exR, evR, lineOk, sizeLine_eq, ofX, ofF, noR, R.out, R.bind, R.of, with1, with2, withs, Bor.res, Bor.frz, ress, frzs, bl2, dat, Sl.get?, Sl.frz, mkSl, Out.res, Res.put, mkArgs, ioAt, doCall, putIos, nd0, nd1, ndl, ndc, nAdd, nSub, nMul, nDiv, nMod, nShl, nShr, nAnd, nXor, nPow, sAdd, lAdd, rAdd, tAdd, lMul, sMul, cEqN, cEqS, cEqB, cNeN, cNeS, cNeB, cLt, cLe, cGt, cGe, cIs, cIsN, isNonN, isNonS, isNonL, isNonR, isNonT, isNonB, isNon0, inS, ninS, tN, tB, tL, tT, tR, t0, bLenL, bLenT, bLenR, bLenS, bIntN, bMin, bMax, bSum, bLstL, bLstT, bTupL, bTupT, ixL, ixT, ixR, ixS, isiN, isiR, flatN, flatR, mutN, mutR, itR, itL, itT, itS, cNilR, cNilN, cNilL, cNilM, meTyJ, inR, ninR, flat0, flatB, flatI, flatS, flatF, flatL, flatT, flatD, mut0, mutB, mutI, mutS, mutF, mutL, mutT, mutD, isi0, isiB, isiI, isiS, isiL, isiT, isiDc, muOk, muTyR, muTyL, muAR, muAL, rMul, setR, bAbs]
      · rw [if_neg (fun z => c2 z.2)]
        simp [i1, c1, c2, exR, evR, lineOk, sizeLine_eq, ofX, ofF, noR, R.out, R.bind, R.of, with1, with2, withs, Bor.res, Bor.frz, ress, frzs, bl2, dat, Sl.get?, Sl.frz, mkSl, Out.res, Res.put, mkArgs, ioAt, doCall, putIos, nd0, nd1, ndl, ndc, nAdd, nSub, nMul, nDiv, nMod, nShl, nShr, nAnd, nXor, nPow, sAdd, lAdd, rAdd, tAdd, lMul, sMul, cEqN, cEqS, cEqB, cNeN, cNeS, cNeB, cLt, cLe, cGt, cGe, cIs, cIsN, isNonN, isNonS, isNonL, isNonR, isNonT, isNonB, isNon0, inS, ninS, tN, tB, tL, tT, tR, t0, bLenL, bLenT, bLenR, bLenS, bIntN, bMin, bMax, bSum, bLstL, bLstT, bTupL, bTupT, ixL, ixT, ixR, ixS, isiN, isiR, flatN, flatR, mutN, mutR, itR, itL, itT, itS, cNilR, cNilN, cNilL, cNilM, meTyJ, inR, ninR, flat0, flatB, flatI, flatS, flatF, flatL, flatT, flatD, mut0, mutB, mutI, mutS, mutF, mutL, mutT, mutD, isi0, isiB, isiI, isiS, isiL, isiT, isiDc, muOk, muTyR, muTyL, muAR, muAL, rMul, setR, bAbs]
    · rw [if_neg (fun z => c1 z.1)]
      simp [i1, c1, exR, evR, lineOk, sizeLine_eq, ofX, ofF, noR, R.out, R.bind, R.of, with1, with2, withs, Bor.res, Bor.frz, ress, frzs, bl2, dat, Sl.get?, Sl.frz, mkSl, Out.res, Res.put, mkArgs, ioAt, doCall, putIos, nd0, nd1, ndl, ndc, nAdd, nSub, nMul, nDiv, nMod, nShl, nShr, nAnd, nXor, nPow, sAdd, lAdd, rAdd, tAdd, lMul, sMul, cEqN, cEqS, cEqB, cNeN, cNeS, cNeB, cLt, cLe, cGt, cGe, cIs, cIsN, isNonN, isNonS, isNonL, isNonR, isNonT, isNonB, isNon0, inS, ninS, tN, tB, tL, tT, tR, t0, bLenL, bLenT, bLenR, bLenS, bIntN, bMin, bMax, bSum, bLstL, bLstT, bTupL, bTupT, ixL, ixT, ixR, ixS, isiN, isiR, flatN, flatR, mutN, mutR, itR, itL, itT, itS, cNilR, cNilN, cNilL, cNilM, meTyJ, inR, ninR, flat0, flatB, flatI, flatS, flatF, flatL, flatT, flatD, mut0, mutB, mutI, mutS, mutF, mutL, mutT, mutD, isi0, isiB, isiI, isiS, isiL, isiT, isiDc, muOk, muTyR, muTyL, muAR, muAL, rMul, setR, bAbs]
  subst k2
  rw [List.length_map, Nat.zero_add, List.take_length] at k1
  exact ⟨_, _, for_nx rfl rfl k1⟩
theorem w7 (hl : W.length ≤ 5) : ∃ x y z, (exR G (fnEval G k) [] F26l1).x [s0, s1, s2, .sh (rowsD W), .sh (nD b), s5, s6, .ow (rowsD (List.replicate W.length 0)), .sh (ordD (ordersL W.length)), s9, s10, s11, s12, s13, s14, s15, s16] = .nx [s0, s1, s2, .sh (rowsD W), .sh (nD b), s5, s6, .ow (rowsD (dvL W b)), .sh (ordD (ordersL W.length)), x, s10, s11, y, z, s14, s15, s16] := by
  obtain ⟨e', k1, x, y, z, k2⟩ := for_thru (tg := .nm 9) (body := (exR G (fnEval G k) [] F26b1).x) (fun i e => ∃ x y z, e = [s0, s1, s2, .sh (rowsD W), .sh (nD b), s5, s6, .ow (rowsD (((ordersL W.length).take i).foldl (out W b) (List.replicate W.length 0))), .sh (ordD (ordersL W.length)), x, s10, s11, y, z, s14, s15, s16]) ((ordersL W.length).map rowsD) 0 [s0, s1, s2, .sh (rowsD W), .sh (nD b), s5, s6, .ow (rowsD (List.replicate W.length 0)), .sh (ordD (ordersL W.length)), s9, s10, s11, s12, s13, s14, s15, s16] ⟨_, _, _, rfl⟩ fun j dd e hj ⟨x, y, z, hx⟩ => by
    subst hx
    have hlt : j < (ordersL W.length).length := by
      have := (List.getElem?_eq_some_iff.mp hj).1
      simpa using this
    rw [List.getElem?_map, List.getElem?_eq_getElem hlt] at hj
    have hdd : dd = rowsD (ordersL W.length)[j] := by simpa using hj.symm
    subst hdd
    rw [Nat.zero_add]
    have all := lt_all W.length (by omega)
    have ho : ∀ o ∈ ordersL W.length, ∀ k ∈ o, k < W.length := fun o ho k hk => by
      have := List.all_eq_true.mp (List.all_eq_true.mp all o ho) k hk
      simpa using this
    have e1 : (ordersL W.length).take (j + 1) = (ordersL W.length).take j ++ [(ordersL W.length)[j]] := by simp
    have hm := ho _ (List.getElem_mem hlt)
    have dl := (out_at W b 0 ((ordersL W.length).take j) (List.replicate W.length 0) (fun o h k hk => by
      rw [List.length_replicate]
      exact ho o (List.mem_of_mem_take h) k hk)).1
    rw [List.length_replicate] at dl
    rw [e1, List.foldl_append]
    generalize ((ordersL W.length).take j).foldl (out W b) (List.replicate W.length 0) = d at dl ⊢
    generalize (ordersL W.length)[j] = o at hm ⊢
    generalize ordD (ordersL W.length) = od
    obtain ⟨y', z', c⟩ := w6 s0 s1 s2 s5 s6 (.sh od) s10 s11 z s14 s15 s16 k hk v o hm d dl
    refine ⟨[s0, s1, s2, .sh (rowsD W), .sh (nD b), s5, s6, .ow (rowsD d), .sh od, .sh (rowsD o), s10, s11, y, z, s14, s15, s16], [s0, s1, s2, .sh (rowsD W), .sh (nD b), s5, s6, .ow (rowsD (out W b d o)), .sh od, .sh (rowsD o), s10, s11, y', z', s14, s15, s16], rfl, .inl ?_, _, _, _, rfl⟩
    unfold F26b1
    refine (seq_nx (asg_nx (x := (nD 0, false)) (e1 := [s0, s1, s2, .sh (rowsD W), .sh (nD b), s5, s6, .ow (rowsD d), .sh od, .sh (rowsD o), s10, s11, y, z, s14, s15, s16]) rfl rfl)).trans ?_
    exact (seq_nx (r := .skip) c).trans rfl
  subst k2
  rw [List.length_map, Nat.zero_add, List.take_length, out_all W b hl] at k1
  exact ⟨_, _, _, for_nx rfl rfl k1⟩
theorem w8 (h7 : s7 = .ow (rowsD (dvL W b)) ∨ s7 = .sh (rowsD (dvL W b))) : (evR G (fnEval G k) F26c6).f [s0, s1, s2, s3, s4, s5, s6, s7, .sh (ordD (ordersL W.length)), s9, s10, s11, s12, s13, s14, s15, s16] = .ok (.lst (shL W b), true) [s0, s1, s2, s3, s4, s5, s6, .sh (rowsD (dvL W b)), .sh (ordD (ordersL W.length)), s9, s10, s11, s12, s13, s14, s15, s16] := by
  have l2 := v.l2
  have ol := len_all W.length (by omega)
  have f1 := fct_le W.length l2
  have f0 := fct_pos W.length
  have hlen : biD .len [ordD (ordersL W.length)] = some (nD (fct W.length), false) := by
    rw [← ol]
    unfold ordD
    rw [bLenL, List.length_map]
  generalize ordD (ordersL W.length) = od at hlen ⊢
  refine comp_all (dvL W b) nD (fun m => .tup [nD (m / Nat.gcd m (fct W.length)), nD (fct W.length / Nat.gcd m (fct W.length))]) (by rcases h7 with rfl | rfl <;> rfl) (by unfold dvL; simp; omega) (fun m hm => ⟨false, ?_⟩)
  have hm2 : m ≤ 1000 := by
    unfold dvL at hm
    obtain ⟨j, hj, rfl⟩ := List.mem_map.mp hm
    exact dv_le W b j l2 (by simpa using hj)
  have g := lgcd_ok k (fct W.length) m (by omega) (by omega)
  rw [Nat.gcd_comm] at g
  have g0 : 0 < Nat.gcd m (fct W.length) := Nat.gcd_pos_of_pos_right _ f0
  have g1 : Nat.gcd m (fct W.length) ≤ fct W.length := Nat.gcd_le_right _ f0
  have d1 := nDiv (a := m) g0 (by omega)
  have d2 := nDiv (a := fct W.length) g0 (by omega)
  simp [g, hlen, d1, d2, exR, evR, lineOk, sizeLine_eq, ofX, ofF, noR, R.out, R.bind, R.of, with1, with2, withs, Bor.res, Bor.frz, ress, frzs, bl2, dat, Sl.get?, Sl.frz, mkSl, Out.res, Res.put, mkArgs, ioAt, doCall, putIos, nd0, nd1, ndl, ndc, nAdd, nSub, nMul, nDiv, nMod, nShl, nShr, nAnd, nXor, nPow, sAdd, lAdd, rAdd, tAdd, lMul, sMul, cEqN, cEqS, cEqB, cNeN, cNeS, cNeB, cLt, cLe, cGt, cGe, cIs, cIsN, isNonN, isNonS, isNonL, isNonR, isNonT, isNonB, isNon0, inS, ninS, tN, tB, tL, tT, tR, t0, bLenL, bLenT, bLenR, bLenS, bIntN, bMin, bMax, bSum, bLstL, bLstT, bTupL, bTupT, ixL, ixT, ixR, ixS, isiN, isiR, flatN, flatR, mutN, mutR, itR, itL, itT, itS, cNilR, cNilN, cNilL, cNilM, meTyJ, inR, ninR, flat0, flatB, flatI, flatS, flatF, flatL, flatT, flatD, mut0, mutB, mutI, mutS, mutF, mutL, mutT, mutD, isi0, isiB, isiI, isiS, isiL, isiT, isiDc, muOk, muTyR, muTyL, muAR, muAL, rMul, setR, bAbs]
end
end K19
namespace K19
open PySem EV
def isEr (c : Nat) : Res → Bool
  | .er d => d == c
  | _ => false
theorem er_of {c : Nat} {r : Res} (h : isEr c r = true) : r = .er c := by
  cases r with
  | er d =>
    have : d = c := by simpa [isEr] using h
    rw [this]
  | ok _ _ => cases h
  | st => cases h
def bads : List (D × D) := [(.lst [], nD 1), (rowsD (List.replicate 11 1), nD 1), (.lst [.int (-1)], nD 1), (.lst [nD 1001], nD 1), (.lst [.bl true], nD 1), (.lst [nD 1], nD 0), (.lst [nD 1], nD 10001), (.lst [nD 1], .bl true), (.non, nD 1), (.tup [nD 1], nD 1)]
theorem bads_all : (bads.all fun p => [9, 12, 13, 14].all fun f => isEr 1 (fnEval G 40 f [.sh p.1, .sh p.2]).res) = true := by decide +kernel
theorem bads_er (p : D × D) (hp : p ∈ bads) (f : Nat) (hf : f ∈ [9, 12, 13, 14]) : (fnEval G 40 f [.sh p.1, .sh p.2]).res = .er 1 := er_of (List.all_eq_true.mp (List.all_eq_true.mp bads_all p hp) f hf)
section
variable (s0 s1 s2 s3 s4 s5 s6 s7 s8 s9 s10 s11 s12 s13 s14 s15 s16 : Sl)
theorem x1 (p : D × D) (hp : p ∈ bads) : ∃ y, (exR G (fnEval G 40) [] F26l2).x [s0, s1, s2, s3, s4, s5, s6, s7, s8, s9, s10, .sh (.tup [p.1, p.2]), s12, s13, s14, s15, s16] = .nx [s0, s1, s2, s3, s4, s5, s6, s7, s8, s9, s10, .sh (.tup [p.1, p.2]), s12, s13, y, s15, s16] := by
  obtain ⟨e', k1, y, k2⟩ := for_thru (tg := .nm 14) (body := (exR G (fnEval G 40) [] F26b2).x) (fun i e => ∃ y, e = [s0, s1, s2, s3, s4, s5, s6, s7, s8, s9, s10, .sh (.tup [p.1, p.2]), s12, s13, y, s15, s16]) ([9, 12, 13, 14].map D.fn) 0 [s0, s1, s2, s3, s4, s5, s6, s7, s8, s9, s10, .sh (.tup [p.1, p.2]), s12, s13, s14, s15, s16] ⟨_, rfl⟩ fun j d e hj ⟨y, hx⟩ => by
    subst hx
    obtain ⟨f, hf, rfl⟩ := List.mem_map.mp (List.mem_of_getElem? hj)
    have er := bads_er p hp f hf
    refine ⟨[s0, s1, s2, s3, s4, s5, s6, s7, s8, s9, s10, .sh (.tup [p.1, p.2]), s12, s13, .sh (.fn f), s15, s16], [s0, s1, s2, s3, s4, s5, s6, s7, s8, s9, s10, .sh (.tup [p.1, p.2]), s12, s13, .sh (.fn f), s15, s16], rfl, .inl ?_, .sh (.fn f), rfl⟩
    have hf' : f = 9 ∨ f = 12 ∨ f = 13 ∨ f = 14 := by simpa using hf
    have hfi : ∃ fi, G.fns[f]? = some fi := by rcases hf' with rfl | rfl | rfl | rfl <;> exact ⟨_, rfl⟩
    obtain ⟨fi, hfi⟩ := hfi
    have hb : (evR G (fnEval G 40) (.cons (.ix (.var 11) (.lit (.int 0))) (.cons (.ix (.var 11) (.lit (.int 1))) .nil))).bs [s0, s1, s2, s3, s4, s5, s6, s7, s8, s9, s10, .sh (.tup [p.1, p.2]), s12, s13, .sh (.fn f), s15, s16] = .ok [.dat p.1, .dat p.2] [s0, s1, s2, s3, s4, s5, s6, s7, s8, s9, s10, .sh (.tup [p.1, p.2]), s12, s13, .sh (.fn f), s15, s16] := by
      simp [exR, evR, lineOk, sizeLine_eq, ofX, ofF, noR, R.out, R.bind, R.of, with1, with2, withs, Bor.res, Bor.frz, ress, frzs, bl2, dat, Sl.get?, Sl.frz, mkSl, Out.res, Res.put, mkArgs, ioAt, doCall, putIos, nd0, nd1, ndl, ndc, nAdd, nSub, nMul, nDiv, nMod, nShl, nShr, nAnd, nXor, nPow, sAdd, lAdd, rAdd, tAdd, lMul, sMul, cEqN, cEqS, cEqB, cNeN, cNeS, cNeB, cLt, cLe, cGt, cGe, cIs, cIsN, isNonN, isNonS, isNonL, isNonR, isNonT, isNonB, isNon0, inS, ninS, tN, tB, tL, tT, tR, t0, bLenL, bLenT, bLenR, bLenS, bIntN, bMin, bMax, bSum, bLstL, bLstT, bTupL, bTupT, ixL, ixT, ixR, ixS, isiN, isiR, flatN, flatR, mutN, mutR, itR, itL, itT, itS, cNilR, cNilN, cNilL, cNilM, meTyJ, inR, ninR, flat0, flatB, flatI, flatS, flatF, flatL, flatT, flatD, mut0, mutB, mutI, mutS, mutF, mutL, mutT, mutD, isi0, isiB, isiI, isiS, isiL, isiT, isiDc, muOk, muTyR, muTyL, muAR, muAL, rMul, setR, bAbs]
    have c := callv_f (G := G) (call := fnEval G 40) (i := 14) (f := f) (fi := fi) (e := [s0, s1, s2, s3, s4, s5, s6, s7, s8, s9, s10, .sh (.tup [p.1, p.2]), s12, s13, .sh (.fn f), s15, s16]) rfl hfi hb
    have c2 : goCall G (fnEval G 40) f [.dat p.1, .dat p.2] [s0, s1, s2, s3, s4, s5, s6, s7, s8, s9, s10, .sh (.tup [p.1, p.2]), s12, s13, .sh (.fn f), s15, s16] = .er 1 [s0, s1, s2, s3, s4, s5, s6, s7, s8, s9, s10, .sh (.tup [p.1, p.2]), s12, s13, .sh (.fn f), s15, s16] := by
      rcases hf' with rfl | rfl | rfl | rfl
      · rw [go9]
        show ((fnEval G 40 9 [.sh p.1, .sh p.2]).res).put _ _ = _
        rw [er]
        rfl
      · rw [go12]
        show ((fnEval G 40 12 [.sh p.1, .sh p.2]).res).put _ _ = _
        rw [er]
        rfl
      · rw [go13]
        show ((fnEval G 40 13 [.sh p.1, .sh p.2]).res).put _ _ = _
        rw [er]
        rfl
      · rw [go14]
        show ((fnEval G 40 14 [.sh p.1, .sh p.2]).res).put _ _ = _
        rw [er]
        rfl
    rw [c2] at c
    have h3 : (exR G (fnEval G 40) [] (.hnd 1 (.seq .skip .skip) .skip)).h 1 [s0, s1, s2, s3, s4, s5, s6, s7, s8, s9, s10, .sh (.tup [p.1, p.2]), s12, s13, .sh (.fn f), s15, s16] = .nx [s0, s1, s2, s3, s4, s5, s6, s7, s8, s9, s10, .sh (.tup [p.1, p.2]), s12, s13, .sh (.fn f), s15, s16] := hnd_ok (by decide) (by decide) rfl
    have h4 : (exR G (fnEval G 40) [] (.tryS (.seq (.expr (.callv 14 (.cons (.ix (.var 11) (.lit (.int 0))) (.cons (.ix (.var 11) (.lit (.int 1))) .nil)))) (.seq (.ret (.lit (.bl false))) .skip)) (.hnd 1 (.seq .skip .skip) .skip))).x [s0, s1, s2, s3, s4, s5, s6, s7, s8, s9, s10, .sh (.tup [p.1, p.2]), s12, s13, .sh (.fn f), s15, s16] = .nx [s0, s1, s2, s3, s4, s5, s6, s7, s8, s9, s10, .sh (.tup [p.1, p.2]), s12, s13, .sh (.fn f), s15, s16] := (try_er (seq_er (expr_er c))).trans h3
    unfold F26b2
    rw [seq_nx h4]
    rfl
  subst k2
  exact ⟨y, for_nx rfl rfl k1⟩
theorem x2 : ∃ x y, (exR G (fnEval G 40) [] F26l3).x [s0, s1, s2, s3, s4, s5, s6, s7, s8, s9, s10, s11, s12, s13, s14, s15, s16] = .nx [s0, s1, s2, s3, s4, s5, s6, s7, s8, s9, s10, x, s12, s13, y, s15, s16] := by
  obtain ⟨e', k1, x, y, k2⟩ := for_thru (tg := .nm 11) (body := (exR G (fnEval G 40) [] F26b3).x) (fun i e => ∃ x y, e = [s0, s1, s2, s3, s4, s5, s6, s7, s8, s9, s10, x, s12, s13, y, s15, s16]) (bads.map fun p => .tup [p.1, p.2]) 0 [s0, s1, s2, s3, s4, s5, s6, s7, s8, s9, s10, s11, s12, s13, s14, s15, s16] ⟨_, _, rfl⟩ fun j d e hj ⟨x, y, hx⟩ => by
    subst hx
    obtain ⟨p, hp, rfl⟩ := List.mem_map.mp (List.mem_of_getElem? hj)
    obtain ⟨y', c⟩ := x1 s0 s1 s2 s3 s4 s5 s6 s7 s8 s9 s10 s12 s13 y s15 s16 p hp
    refine ⟨[s0, s1, s2, s3, s4, s5, s6, s7, s8, s9, s10, .sh (.tup [p.1, p.2]), s12, s13, y, s15, s16], [s0, s1, s2, s3, s4, s5, s6, s7, s8, s9, s10, .sh (.tup [p.1, p.2]), s12, s13, y', s15, s16], rfl, .inl ?_, _, _, rfl⟩
    exact (seq_nx (r := .skip) c).trans rfl
  subst k2
  refine ⟨x, y, ?_⟩
  unfold F26l3
  refine for_nx rfl ?_ k1
  have u : unD .USub (nD 1) = some (.int (-1)) := rfl
  have m := rMul (n := 11) 1 (by decide)
  simp [bads, u, m, exR, evR, lineOk, sizeLine_eq, ofX, ofF, noR, R.out, R.bind, R.of, with1, with2, withs, Bor.res, Bor.frz, ress, frzs, bl2, dat, Sl.get?, Sl.frz, mkSl, Out.res, Res.put, mkArgs, ioAt, doCall, putIos, nd0, nd1, ndl, ndc, nAdd, nSub, nMul, nDiv, nMod, nShl, nShr, nAnd, nXor, nPow, sAdd, lAdd, rAdd, tAdd, lMul, sMul, cEqN, cEqS, cEqB, cNeN, cNeS, cNeB, cLt, cLe, cGt, cGe, cIs, cIsN, isNonN, isNonS, isNonL, isNonR, isNonT, isNonB, isNon0, inS, ninS, tN, tB, tL, tT, tR, t0, bLenL, bLenT, bLenR, bLenS, bIntN, bMin, bMax, bSum, bLstL, bLstT, bTupL, bTupT, ixL, ixT, ixR, ixS, isiN, isiR, flatN, flatR, mutN, mutR, itR, itL, itT, itS, cNilR, cNilN, cNilL, cNilM, meTyJ, inR, ninR, flat0, flatB, flatI, flatS, flatF, flatL, flatT, flatD, mut0, mutB, mutI, mutS, mutF, mutL, mutT, mutD, isi0, isiB, isiI, isiS, isiL, isiT, isiDc, muOk, muTyR, muTyL, muAR, muAL, rMul, setR, bAbs]
end
theorem sum_le : ∀ W : List Nat, (∀ w ∈ W, w ≤ 1000) → W.sum ≤ 1000 * W.length
  | [], _ => by simp
  | w :: W, h => by
    have := sum_le W fun x hx => h x (List.mem_cons_of_mem _ hx)
    have := h w List.mem_cons_self
    simp
    omega
theorem leq (k : Nat) (d : D) (h1 : d.lim = true) (h2 : d.dep ≤ 2) (h : 5 ≤ k) : (fnEval G k 18 [.sh d, .sh d]).res = .ok (.bl true) false := leq_any (.inr rfl) (show G.fns[18]? = some ⟨"_law_equal", 2, ["actual", "due"], [], bEq2 19⟩ from rfl) rfl (show G.fns[19]? = some ⟨"_law_all_equal", 2, ["actual", "due", "k"], [], bAll 18⟩ from rfl) rfl 2 d k h1 h2 (by omega)
theorem shL_lim (W : List Nat) (b : Nat) (h : W.length ≤ 5) : (D.lst (shL W b)).lim = true ∧ (D.lst (shL W b)).dep ≤ 2 := by
  have hl : (shL W b).length ≤ 1000000 := by
    unfold shL dvL
    simp
    omega
  have key : ∀ l : List Nat, D.lims (l.map fun m => D.tup [nD (m / Nat.gcd m (fct W.length)), nD (fct W.length / Nat.gcd m (fct W.length))]) = true ∧ D.deps (l.map fun m => D.tup [nD (m / Nat.gcd m (fct W.length)), nD (fct W.length / Nat.gcd m (fct W.length))]) ≤ 1 := fun l => by
    induction l with
    | nil => exact ⟨rfl, Nat.zero_le 1⟩
    | cons a l ih => exact ⟨ih.1, Nat.max_le.mpr ⟨Nat.le_refl 1, ih.2⟩⟩
  refine ⟨Bool.and_eq_true_iff.mpr ⟨decide_eq_true hl, (key _).1⟩, ?_⟩
  have := (key (dvL W b)).2
  show D.deps (shL W b) + 1 ≤ 2
  unfold shL
  omega
theorem main : ∀ ns : List Int, ns.length ≤ 63 → ∃ fr e, fnEval G 41 26 [.sh (.scr ns)] = .ok (.bl true) fr e := by
  intro ns hns
  rw [fn_step (fi := f26) 40 _ rfl rfl]
  
  show Ret ((exR G (fnEval G 40) [] f26.body).x [.sh (.scr ns), .no, .no, .no, .no, .no, .no, .no, .no, .no, .no, .no, .no, .no, .no, .no, .no])
  obtain ⟨l, hs, hl, hnum⟩ := numbers_ok (show G.fns[15]? = some fMixed from rfl) (show G.fns[16]? = some (fNumbers 15) from rfl) 40 ns hns (by omega)
  refine go_asg Ret (x := (drD l 0, true)) (e1 := [.sh (.scr ns), .no, .no, .no, .no, .no, .no, .no, .no, .no, .no, .no, .no, .no, .no, .no, .no]) (by simp [hnum, drD, exR, evR, lineOk, sizeLine_eq, ofX, ofF, noR, R.out, R.bind, R.of, with1, with2, withs, Bor.res, Bor.frz, ress, frzs, bl2, dat, Sl.get?, Sl.frz, mkSl, Out.res, Res.put, mkArgs, ioAt, doCall, putIos, nd0, nd1, ndl, ndc, nAdd, nSub, nMul, nDiv, nMod, nShl, nShr, nAnd, nXor, nPow, sAdd, lAdd, rAdd, tAdd, lMul, sMul, cEqN, cEqS, cEqB, cNeN, cNeS, cNeB, cLt, cLe, cGt, cGe, cIs, cIsN, isNonN, isNonS, isNonL, isNonR, isNonT, isNonB, isNon0, inS, ninS, tN, tB, tL, tT, tR, t0, bLenL, bLenT, bLenR, bLenS, bIntN, bMin, bMax, bSum, bLstL, bLstT, bTupL, bTupT, ixL, ixT, ixR, ixS, isiN, isiR, flatN, flatR, mutN, mutR, itR, itL, itT, itS, cNilR, cNilN, cNilL, cNilM, meTyJ, inR, ninR, flat0, flatB, flatI, flatS, flatF, flatL, flatT, flatD, mut0, mutB, mutI, mutS, mutF, mutL, mutT, mutD, isi0, isiB, isiI, isiS, isiL, isiT, isiDc, muOk, muTyR, muTyL, muAR, muAL, rMul, setR, bAbs]) rfl ?_
  
  show Ret ((exR G (fnEval G 40) [] _).x [.sh (.scr ns), .ow (drD l 0), .no, .no, .no, .no, .no, .no, .no, .no, .no, .no, .no, .no, .no, .no, .no])
  -- many
  obtain ⟨v, hv, g⟩ := draw2_call m15 d17 40 1 l 0 5 hs hl (by omega) (by omega) (by omega) (.lit (.int 5)) [.sh (.scr ns), .ow (drD l 0), .no, .no, .no, .no, .no, .no, .no, .no, .no, .no, .no, .no, .no, .no, .no] rfl rfl
  have gb := call_b g
  
  refine go_asg Ret (x := (nD (1 + v), false)) (e1 := [.sh (.scr ns), .ow (drD l 1), .no, .no, .no, .no, .no, .no, .no, .no, .no, .no, .no, .no, .no, .no, .no]) (by
    show with2 (evR G (fnEval G 40) (.lit (.int 1))) (evR G (fnEval G 40) (.call 17 (.cons (.var 1) (.cons (.lit (.int 5)) .nil)))) _ _ = _
    unfold with2
    show ((evR G (fnEval G 40) (.call 17 (.cons (.var 1) (.cons (.lit (.int 5)) .nil)))).b _).bind _ = _
    rw [gb]
    rfl) rfl ?_
  have n1 : 1 ≤ 1 + v := by omega
  have n2 : 1 + v ≤ 5 := by omega
  generalize 1 + v = n at n1 n2 ⊢
  clear g gb hv
  
  show Ret ((exR G (fnEval G 40) [] _).x [.sh (.scr ns), .ow (drD l 1), .sh (nD n), .no, .no, .no, .no, .no, .no, .no, .no, .no, .no, .no, .no, .no, .no])
  -- weights, bound
  obtain ⟨W, hW, hle, cw⟩ := w0 (.sh (.scr ns)) .no .no .no .no .no .no .no .no .no .no .no .no .no .no 40 (by omega) l 1 n hs hl (by omega) n2
  subst hW
  
  refine go_asg Ret cw rfl ?_
  
  show Ret ((exR G (fnEval G 40) [] _).x [.sh (.scr ns), .ow (drD l (1 + 2 * W.length)), .sh (nD W.length), .ow (rowsD W), .no, .no, .no, .no, .no, .no, .no, .no, .no, .no, .no, .no, .no])
  obtain ⟨b, b1, b2, cb⟩ := b0 (.sh (.scr ns)) (.sh (nD W.length)) .no .no .no .no .no .no .no .no .no .no .no .no .no 40 (by omega) l (1 + 2 * W.length) W hs hl (by omega) (by have := sum_le W hle; omega)
  refine go_asg Ret cb rfl ?_
  generalize hd : drD l (1 + 2 * W.length + 2) = dr
  
  show Ret ((exR G (fnEval G 40) [] _).x [.sh (.scr ns), .ow dr, .sh (nD W.length), .ow (rowsD W), .sh (nD b), .no, .no, .no, .no, .no, .no, .no, .no, .no, .no, .no, .no])
  have v : Vote W b := ⟨n1, n2, hle, b1, b2⟩
  clear hd hs hnum
  -- wins, swing
  refine go_asg Ret (w2 _ _ _ _ _ _ _ _ _ _ _ _ _ _ 40 (by omega) v (.ow (rowsD W)) (.inl rfl)) rfl ?_
  
  show Ret ((exR G (fnEval G 40) [] _).x [.sh (.scr ns), .ow dr, .sh (nD W.length), .ow (rowsD W), .sh (nD b), .ow (winD W b), .no, .no, .no, .no, .no, .no, .no, .no, .no, .no, .no])
  refine go_asg Ret (w4 _ _ _ _ _ _ _ _ _ _ _ _ _ _ _ 40 (by omega) v) rfl ?_
  
  show Ret ((exR G (fnEval G 40) [] _).x [.sh (.scr ns), .ow dr, .sh (nD W.length), .ow (rowsD W), .sh (nD b), .ow (winD W b), .ow (rowsD (swL W b)), .no, .no, .no, .no, .no, .no, .no, .no, .no, .no])
  have sw := swings_ok 40 v (by omega)
  have wo := without_ok 40 v (by omega)
  have e1 : ((List.range W.length).map fun j => (sz W b j).length) = swL W b := by
    unfold swL sz
    simp
  rw [e1] at sw
  have q1 := leq 40 (rowsD (swL W b)) (lim_rows (by unfold swL; simp; omega)) (by rw [dep_rows]; decide) (by omega)
  have q2 := leq 40 (rowsD ((List.range W.length).filter fun j => (sz W b j).isEmpty)) (lim_rows (by
    refine Nat.le_trans (List.length_filter_le _ _) ?_
    simp
    omega)) (by rw [dep_rows]; decide) (by omega)
  have c5 := w5 (.sh (.scr ns)) (.ow dr) (.sh (rowsD W)) (.sh (nD b)) (.ow (winD W b)) (.ow (rowsD (swL W b))) .no .no .no .no .no .no .no .no .no .no 40 (by omega) v (.inl rfl)
  generalize ((List.range W.length).filter fun j => (sz W b j).isEmpty) = em at wo q2 c5
  refine go_ff Ret (e1 := [.sh (.scr ns), .ow dr, .sh (nD W.length), .sh (rowsD W), .sh (nD b), .ow (winD W b), .ow (rowsD (swL W b)), .no, .no, .no, .no, .no, .no, .no, .no, .no, .no]) (by
    simp [sw, wo, q1, q2, c5, exR, evR, lineOk, sizeLine_eq, ofX, ofF, noR, R.out, R.bind, R.of, with1, with2, withs, Bor.res, Bor.frz, ress, frzs, bl2, dat, Sl.get?, Sl.frz, mkSl, Out.res, Res.put, mkArgs, ioAt, doCall, putIos, nd0, nd1, ndl, ndc, nAdd, nSub, nMul, nDiv, nMod, nShl, nShr, nAnd, nXor, nPow, sAdd, lAdd, rAdd, tAdd, lMul, sMul, cEqN, cEqS, cEqB, cNeN, cNeS, cNeB, cLt, cLe, cGt, cGe, cIs, cIsN, isNonN, isNonS, isNonL, isNonR, isNonT, isNonB, isNon0, inS, ninS, tN, tB, tL, tT, tR, t0, bLenL, bLenT, bLenR, bLenS, bIntN, bMin, bMax, bSum, bLstL, bLstT, bTupL, bTupT, ixL, ixT, ixR, ixS, isiN, isiR, flatN, flatR, mutN, mutR, itR, itL, itT, itS, cNilR, cNilN, cNilL, cNilM, meTyJ, inR, ninR, flat0, flatB, flatI, flatS, flatF, flatL, flatT, flatD, mut0, mutB, mutI, mutS, mutF, mutL, mutT, mutD, isi0, isiB, isiI, isiS, isiL, isiT, isiDc, muOk, muTyR, muTyL, muAR, muAL, rMul, setR, bAbs]) ?_
  generalize rowsD (swL W b) = sl
  generalize winD W b = wd
  
  -- the orders
  refine go_asg Ret (x := (rowsD (List.replicate W.length 0), true)) (e1 := [.sh (.scr ns), .ow dr, .sh (nD W.length), .sh (rowsD W), .sh (nD b), .ow wd, .ow sl, .no, .no, .no, .no, .no, .no, .no, .no, .no, .no]) (by
    have m := rMul (n := W.length) 0 (by omega)
    simp [m, exR, evR, lineOk, sizeLine_eq, ofX, ofF, noR, R.out, R.bind, R.of, with1, with2, withs, Bor.res, Bor.frz, ress, frzs, bl2, dat, Sl.get?, Sl.frz, mkSl, Out.res, Res.put, mkArgs, ioAt, doCall, putIos, nd0, nd1, ndl, ndc, nAdd, nSub, nMul, nDiv, nMod, nShl, nShr, nAnd, nXor, nPow, sAdd, lAdd, rAdd, tAdd, lMul, sMul, cEqN, cEqS, cEqB, cNeN, cNeS, cNeB, cLt, cLe, cGt, cGe, cIs, cIsN, isNonN, isNonS, isNonL, isNonR, isNonT, isNonB, isNon0, inS, ninS, tN, tB, tL, tT, tR, t0, bLenL, bLenT, bLenR, bLenS, bIntN, bMin, bMax, bSum, bLstL, bLstT, bTupL, bTupT, ixL, ixT, ixR, ixS, isiN, isiR, flatN, flatR, mutN, mutR, itR, itL, itT, itS, cNilR, cNilN, cNilL, cNilM, meTyJ, inR, ninR, flat0, flatB, flatI, flatS, flatF, flatL, flatT, flatD, mut0, mutB, mutI, mutS, mutF, mutL, mutT, mutD, isi0, isiB, isiI, isiS, isiL, isiT, isiDc, muOk, muTyR, muTyL, muAR, muAL, rMul, setR, bAbs]) rfl ?_
  
  show Ret ((exR G (fnEval G 40) [] _).x [.sh (.scr ns), .ow dr, .sh (nD W.length), .sh (rowsD W), .sh (nD b), .ow wd, .ow sl, .ow (rowsD (List.replicate W.length 0)), .no, .no, .no, .no, .no, .no, .no, .no, .no])
  have oo := orders_ok W.length n1 n2
  refine go_asg Ret (x := (ordD (ordersL W.length), false)) (e1 := [.sh (.scr ns), .ow dr, .sh (nD W.length), .sh (rowsD W), .sh (nD b), .ow wd, .ow sl, .ow (rowsD (List.replicate W.length 0)), .no, .no, .no, .no, .no, .no, .no, .no, .no]) (by
    have fl : (ordD (ordersL W.length)).flat = false := rfl
    simp [oo, fl, exR, evR, lineOk, sizeLine_eq, ofX, ofF, noR, R.out, R.bind, R.of, with1, with2, withs, Bor.res, Bor.frz, ress, frzs, bl2, dat, Sl.get?, Sl.frz, mkSl, Out.res, Res.put, mkArgs, ioAt, doCall, putIos, nd0, nd1, ndl, ndc, nAdd, nSub, nMul, nDiv, nMod, nShl, nShr, nAnd, nXor, nPow, sAdd, lAdd, rAdd, tAdd, lMul, sMul, cEqN, cEqS, cEqB, cNeN, cNeS, cNeB, cLt, cLe, cGt, cGe, cIs, cIsN, isNonN, isNonS, isNonL, isNonR, isNonT, isNonB, isNon0, inS, ninS, tN, tB, tL, tT, tR, t0, bLenL, bLenT, bLenR, bLenS, bIntN, bMin, bMax, bSum, bLstL, bLstT, bTupL, bTupT, ixL, ixT, ixR, ixS, isiN, isiR, flatN, flatR, mutN, mutR, itR, itL, itT, itS, cNilR, cNilN, cNilL, cNilM, meTyJ, inR, ninR, flat0, flatB, flatI, flatS, flatF, flatL, flatT, flatD, mut0, mutB, mutI, mutS, mutF, mutL, mutT, mutD, isi0, isiB, isiI, isiS, isiL, isiT, isiDc, muOk, muTyR, muTyL, muAR, muAL, rMul, setR, bAbs]) rfl ?_
  
  show Ret ((exR G (fnEval G 40) [] _).x [.sh (.scr ns), .ow dr, .sh (nD W.length), .sh (rowsD W), .sh (nD b), .ow wd, .ow sl, .ow (rowsD (List.replicate W.length 0)), .sh (ordD (ordersL W.length)), .no, .no, .no, .no, .no, .no, .no, .no])
  obtain ⟨x9, x12, x13, c7⟩ := w7 (.sh (.scr ns)) (.ow dr) (.sh (nD W.length)) (.ow wd) (.ow sl) .no .no .no .no .no .no .no .no 40 (by omega) v n2
  refine go_nx Ret c7 ?_
  
  have od := odecided_ok 40 v (by omega)
  have q3 := leq 40 (rowsD (dvL W b)) (lim_rows (by unfold dvL; simp; omega)) (by rw [dep_rows]; decide) (by omega)
  refine go_ff Ret (e1 := [.sh (.scr ns), .ow dr, .sh (nD W.length), .sh (rowsD W), .sh (nD b), .ow wd, .ow sl, .ow (rowsD (dvL W b)), .sh (ordD (ordersL W.length)), x9, .no, .no, x12, x13, .no, .no, .no]) (by
    simp [od, q3, exR, evR, lineOk, sizeLine_eq, ofX, ofF, noR, R.out, R.bind, R.of, with1, with2, withs, Bor.res, Bor.frz, ress, frzs, bl2, dat, Sl.get?, Sl.frz, mkSl, Out.res, Res.put, mkArgs, ioAt, doCall, putIos, nd0, nd1, ndl, ndc, nAdd, nSub, nMul, nDiv, nMod, nShl, nShr, nAnd, nXor, nPow, sAdd, lAdd, rAdd, tAdd, lMul, sMul, cEqN, cEqS, cEqB, cNeN, cNeS, cNeB, cLt, cLe, cGt, cGe, cIs, cIsN, isNonN, isNonS, isNonL, isNonR, isNonT, isNonB, isNon0, inS, ninS, tN, tB, tL, tT, tR, t0, bLenL, bLenT, bLenR, bLenS, bIntN, bMin, bMax, bSum, bLstL, bLstT, bTupL, bTupT, ixL, ixT, ixR, ixS, isiN, isiR, flatN, flatR, mutN, mutR, itR, itL, itT, itS, cNilR, cNilN, cNilL, cNilM, meTyJ, inR, ninR, flat0, flatB, flatI, flatS, flatF, flatL, flatT, flatD, mut0, mutB, mutI, mutS, mutF, mutL, mutT, mutD, isi0, isiB, isiI, isiS, isiL, isiT, isiDc, muOk, muTyR, muTyL, muAR, muAL, rMul, setR, bAbs]) ?_
  refine go_asg Ret (x := (.lst (shL W b), true)) (e1 := [.sh (.scr ns), .ow dr, .sh (nD W.length), .sh (rowsD W), .sh (nD b), .ow wd, .ow sl, .sh (rowsD (dvL W b)), .sh (ordD (ordersL W.length)), x9, .no, .no, x12, x13, .no, .no, .no]) (w8 _ _ _ _ _ _ _ _ _ _ _ _ _ _ _ _ 40 (by omega) v (.inl rfl)) rfl ?_
  
  show Ret ((exR G (fnEval G 40) [] _).x [.sh (.scr ns), .ow dr, .sh (nD W.length), .sh (rowsD W), .sh (nD b), .ow wd, .ow sl, .sh (rowsD (dvL W b)), .sh (ordD (ordersL W.length)), x9, .ow (.lst (shL W b)), .no, x12, x13, .no, .no, .no])
  have sh := shares_ok 40 v (by omega)
  have q4 := leq 40 (.lst (shL W b)) (shL_lim W b n2).1 (shL_lim W b n2).2 (by omega)
  refine go_ff Ret (e1 := [.sh (.scr ns), .ow dr, .sh (nD W.length), .sh (rowsD W), .sh (nD b), .ow wd, .ow sl, .sh (rowsD (dvL W b)), .sh (ordD (ordersL W.length)), x9, .ow (.lst (shL W b)), .no, x12, x13, .no, .no, .no]) (by
    simp [sh, q4, exR, evR, lineOk, sizeLine_eq, ofX, ofF, noR, R.out, R.bind, R.of, with1, with2, withs, Bor.res, Bor.frz, ress, frzs, bl2, dat, Sl.get?, Sl.frz, mkSl, Out.res, Res.put, mkArgs, ioAt, doCall, putIos, nd0, nd1, ndl, ndc, nAdd, nSub, nMul, nDiv, nMod, nShl, nShr, nAnd, nXor, nPow, sAdd, lAdd, rAdd, tAdd, lMul, sMul, cEqN, cEqS, cEqB, cNeN, cNeS, cNeB, cLt, cLe, cGt, cGe, cIs, cIsN, isNonN, isNonS, isNonL, isNonR, isNonT, isNonB, isNon0, inS, ninS, tN, tB, tL, tT, tR, t0, bLenL, bLenT, bLenR, bLenS, bIntN, bMin, bMax, bSum, bLstL, bLstT, bTupL, bTupT, ixL, ixT, ixR, ixS, isiN, isiR, flatN, flatR, mutN, mutR, itR, itL, itT, itS, cNilR, cNilN, cNilL, cNilM, meTyJ, inR, ninR, flat0, flatB, flatI, flatS, flatF, flatL, flatT, flatD, mut0, mutB, mutI, mutS, mutF, mutL, mutT, mutD, isi0, isiB, isiI, isiS, isiL, isiT, isiDc, muOk, muTyR, muTyL, muAR, muAL, rMul, setR, bAbs]) ?_
  -- what is none
  obtain ⟨x11, x14, c9⟩ := x2 (.sh (.scr ns)) (.ow dr) (.sh (nD W.length)) (.sh (rowsD W)) (.sh (nD b)) (.ow wd) (.ow sl) (.sh (rowsD (dvL W b))) (.sh (ordD (ordersL W.length))) x9 (.ow (.lst (shL W b))) .no x12 x13 .no .no .no
  refine go_nx Ret c9 ?_
  refine go_ret Ret (x := (.bl true, false)) (by intro i h; cases h) rfl ?_
  exact ⟨false, _, rfl⟩
end K19
namespace K19
open PySem PySem.Spec PyProof.Rows L2
def top (i : Nat) : Stmt := PySem.Challenge.pw_everyswitch_k19_votes.main.body.getD i (.Pass ⟨0, 0, 0, 0⟩)
def dd (n : String) (i : Nat) : He.DefD := ⟨(Str.ofString n, none), Str.ofString n, Str.ofString n, defArgs (top i), defBody (top i), defScope (top i), [], []⟩
def fn : List He.DefD := [dd "is_number" 4, dd "check_number" 5, dd "divisor" 6, dd "fraction" 7, dd "bit" 8, dd "ones" 9, dd "sums_of" 12, dd "check_votes" 13, dd "swing_sizes" 14, dd "swings" 15, dd "all_orders" 16, dd "decided" 17, dd "orders_decided" 18, dd "shares" 19, dd "without_say" 20, dd "_law_mixed" 22, dd "_law_numbers" 23, dd "_law_draw" 24, dd "_law_equal" 25, dd "_law_all_equal" 26, dd "_law_function" 27, dd "_law_made" 28, dd "_law_bit" 29, dd "_law_ones" 30, dd "_law_orders" 31] ++ [dd "_law_divisor" 32, dd "law" 33]
def fa : List He.Fa := [.glo "is_number", .glo "check_number", .glo "divisor", .glo "fraction", .glo "bit", .glo "ones", .glo "sums_of", .glo "check_votes", .glo "swing_sizes", .glo "swings", .glo "all_orders", .glo "decided", .glo "orders_decided", .glo "shares", .glo "without_say", .glo "_law_mixed", .glo "_law_numbers", .glo "_law_draw", .glo "_law_equal", .glo "_law_all_equal", .glo "_law_function", .glo "_law_made", .glo "_law_bit", .glo "_law_ones", .glo "_law_orders"] ++ [.glo "_law_divisor", .glo "law", .glo "SwitchError", .glo "BadArgument", .free "len", .free "int", .free "str", .free "abs", .free "sum", .free "min", .free "max", .free "sorted", .free "list", .free "tuple", .free "isinstance", .free "range", .free "bool", .free "dict", .exc "SwitchError", .exc "BadArgument", .exm "SwitchError" "SwitchError" true, .exm "SwitchError" "BadArgument" false, .exm "BadArgument" "SwitchError" true, .exm "BadArgument" "BadArgument" true, .int "MOST_WEIGHT" 1000]
def names : List Str := (["is_number", "check_number", "divisor", "fraction", "bit", "ones", "sums_of", "check_votes", "swing_sizes", "swings", "all_orders", "decided", "orders_decided", "shares", "without_say", "_law_mixed", "_law_numbers", "_law_draw", "_law_equal", "_law_all_equal", "_law_function", "_law_made", "_law_bit", "_law_ones", "_law_orders"] : List Str) ++ (["_law_divisor", "SwitchError", "BadArgument", "MOST_WEIGHT"] : List Str)
theorem allOk : EV.allB G fn = true := by decide +kernel
theorem factsOk : EV.factsB G fa = true := by decide +kernel
abbrev R : PySem.W.OpenRow := PySem.W.OpenLaw.row PySem.Challenge.rw_everyswitch_k19_votes
abbrev hk : PySem.W.Hook := He.hookD 4 fa fn
def ob (s : PySem.W.SharedT) : He.AlD := He.obsDG 4 fa fn (HandSHeadRun.getT s)
theorem ob_eq (s : PySem.W.SharedT) : ob s = hk.obs s.abs := He.obsDG_eq (HandSHeadRun.getT_eq s)
theorem run (w : World) : HandSHeadRun.RunEq R (PySem.W.view R.prog [33]) hk ob 20000 names w := by
  intro os
  kernel_rfl
end K19
open PySem PySem.W PySem.Calls PyProof.Rows
theorem PySem.Challenge.cw_everyswitch_k19_votes_holds : PySem.Challenge.rw_everyswitch_k19_votes.Holds := by
  w_on; o_law
  refine HandSHeadRun.head_any (r := OpenLaw.row PySem.Challenge.rw_everyswitch_k19_votes) (q := view (OpenLaw.row PySem.Challenge.rw_everyswitch_k19_votes).prog [33]) (H := K19.hk) (ob := K19.ob) (M := 20000) (loose := K19.names) (d := HandSHeadRun.topDef (OpenLaw.row PySem.Challenge.rw_everyswitch_k19_votes).prog 33) (kwd := []) K19.ob_eq
    (by kernel_rfl) (fun s => by kernel_rfl) K19.run (by kernel_rfl) (by kernel_rfl) (by kernel_rfl) (by rfl) (by first | assumption | decide +kernel) (by decide +kernel) ⟨rfl, rfl, rfl, rfl, rfl, by decide +kernel⟩ ?hw ?hc
  case hw => w_witness2
  case hc =>
    refine L2.walk_ofE (l := PySem.Challenge.rw_everyswitch_k19_votes) (n := 63) (k := 40 + 1) (x := "script") (CX := L2.CX0) rfl (by decide) (by kernel_rfl) ⟨rfl, by decide, by decide⟩ ?F (fun _ _ _ _ z => z)
    intro w mg fad h Y N hmg0
    obtain ⟨K, KX, c⟩ := Y
    have hmg : mg ("law" : PySem.Str) = some (.ref fad) := by
      have e : (HandSHeadRun.topDef (OpenLaw.row PySem.Challenge.rw_everyswitch_k19_votes).prog 33).name = ("law" : PySem.Str) := by kernel_rfl
      rw [← e]
      exact hmg0
    exact EV.law_end (G := K19.G) (fn := K19.fn) (fa := K19.fa) (f := 26) (fi := K19.f26) (d := K19.dd "law" 33) KX N c K19.allOk K19.factsOk rfl rfl rfl rfl hmg K19.main
