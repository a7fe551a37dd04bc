import PyProof.Rows.All
import Wide.All
import OpenK.AllK
import Wide.FinOn
import HandS.ForMost
import HandS.ForExc
import HandS.Flow
import HandS.IsInst
import HandS.Deep
import HandS.TupAny
import HandS.CallLocal
import HandS.TryMany
import HandS.Walk
import HandS.SortInts
import HandS.HeadHook1
import HandS.DictComp
import HandS.Conv
import HandS.SetFor
import HandS.Style
import HandS.HeadHook2
import HandS.Defaults
import HandS.HeadEnd
import KE.BitLaws
import KE.KStateDown
import Lean
import HandS.Ends
import HandS.More
import HandS.Words
import HandS.WordsExc
import HandS.Head0
import HandS.Head1
import HandS.Head2
import PySem.Challenge.RW_everyswitch_k00_functions_worked
set_option Elab.async false
set_option linter.all false
set_option maxRecDepth 100000
set_option maxHeartbeats 4000000
/-! The evaluator: data, state, what an expression and a statement come to. -/
namespace EV
open PySem L2
/-- data, without the heap -/
inductive D where
  | non | bl (b : Bool) | int (i : Int) | str (s : List Nat) | lst (xs : List D) | tup (xs : List D) | fn (i : Nat) | dct (ks vs : List D) | scr (ns : List Int)
deriving Inhabited
def D.flat : D → Bool
  | .non | .bl _ | .int _ | .str _ | .fn _ => true
  | _ => false
def D.isNon : D → Bool
  | .non => true
  | _ => false
/-- what may change once it is made -/
def D.mutb : D → Bool
  | .lst _ | .dct _ _ => true
  | _ => false
mutual
def D.py : D → Option PyData
  | .non => some .none
  | .bl b => some (.bool b)
  | .int i => some (.int i)
  | .str s => some (.str ⟨s.toArray⟩)
  | .lst xs => (D.pys xs).map .list
  | .tup xs => (D.pys xs).map .tuple
  | .fn _ => none
  | .dct _ _ => none
  | .scr _ => none
def D.pys : List D → Option (List PyData)
  | [] => some []
  | x :: xs => match D.py x, D.pys xs with
    | some p, some ps => some (p :: ps)
    | _, _ => none
end
/-- a slot: empty; data that nobody changes any more; an object that this slot alone holds -/
inductive Sl where
  | no | sh (d : D) | ow (d : D)
deriving Inhabited
abbrev Ev := List Sl
def Sl.get? : Sl → Option D
  | .no => none
  | .sh d => some d
  | .ow d => some d
def Sl.frz : Sl → Sl
  | .ow d => .sh d
  | s => s
inductive R (α : Type) where
  | ok (a : α) (e : Ev)
  | er (c : Nat) (e : Ev)
  | st
def R.bind {α β : Type} (r : R α) (f : α → Ev → R β) : R β := match r with
  | .ok a e => f a e
  | .er c e => .er c e
  | .st => .st
def R.of {α : Type} (o : Option α) (e : Ev) : R α := match o with
  | some a => .ok a e
  | none => .st
/-- what a def's call comes to, with the frame behind it -/
inductive FR where
  | ok (d : D) (fr : Bool) (e : Ev)
  | er (c : Nat) (e : Ev)
  | st
/-- what a statement comes to -/
inductive Out where
  | nx (e : Ev) | rt (d : D) (fr : Bool) (e : Ev) | bk (e : Ev) | ct (e : Ev) | er (c : Nat) (e : Ev) | st
/-! ### operations on data -/
def lineOk (n : Nat) : Bool := decide (n ≤ sizeLine)
def cMul (i j : Int) : Bool := Nat.ble i.natAbs 18446744073709551615 || Nat.ble j.natAbs 18446744073709551615
def cPow (i j : Int) : Bool := decide (0 ≤ j) && Nat.ble j.natAbs 1000000 && Nat.ble i.natAbs 18446744073709551615
def binD (op : Operator) (x y : D) : Option (D × Bool) := match op, x, y with
  | .Add, .int i, .int j => some (.int (i + j), false)
  | .Sub, .int i, .int j => some (.int (i - j), false)
  | .Mult, .int i, .int j => if cMul i j then some (.int (i * j), false) else none
  | .FloorDiv, .int i, .int j => if decide (0 < j) && Nat.ble j.natAbs 1073741823 then some (.int (i / j), false) else none
  | .Mod, .int i, .int j => if decide (0 < j) then some (.int (i % j), false) else none
  | .Pow, .int i, .int j => if cPow i j then some (.int (i ^ j.toNat), false) else none
  | .LShift, .int i, .int j => if cPow i j then some (.int (i * 2 ^ j.toNat), false) else none
  | .RShift, .int i, .int j => if decide (0 ≤ j) then some (.int (i / 2 ^ j.toNat), false) else none
  | .BitAnd, .int i, .int j => some (.int (Builtin.bitAnd i j), false)
  | .BitOr, .int i, .int j => some (.int (Builtin.bitOr i j), false)
  | .BitXor, .int i, .int j => some (.int (Builtin.bitXor i j), false)
  | .Add, .str a, .str b => if lineOk (a.length + b.length) then some (.str (a ++ b), false) else none
  | .Add, .lst a, .lst b => if lineOk (a.length + b.length) then some (.lst (a ++ b), true) else none
  | .Add, .tup a, .tup b => if lineOk (a.length + b.length) then some (.tup (a ++ b), false) else none
  | .Mult, .lst a, .int k => if Nat.ble k.natAbs 9223372036854775807 && lineOk (a.length * k.toNat) then some (.lst (List.replicate k.toNat a).flatten, true) else none
  | .Mult, .str a, .int k => if Nat.ble k.natAbs 9223372036854775807 && lineOk (a.length * k.toNat) then some (.str (List.replicate k.toNat a).flatten, false) else none
  | _, _, _ => none
def augD (op : Operator) (x y : D) : Option D := match op, x, y with
  | .Add, .int i, .int j => some (.int (i + j))
  | .Sub, .int i, .int j => some (.int (i - j))
  | .BitXor, .int i, .int j => some (.int (Builtin.bitXor i j))
  | .Add, .str a, .str b => if lineOk (a.length + b.length) then some (.str (a ++ b)) else none
  | _, _, _ => none
def unD (op : UnaryOp) (x : D) : Option D := match op, x with
  | .USub, .int i => some (.int (-i))
  | .Invert, .int i => some (.int (Builtin.bitNot i))
  | _, _ => none
/-- scalars whose == needs no look at the heap -/
def scalD : D → D → Option Bool
  | .non, .non => some true
  | .non, .int _ | .int _, .non | .non, .bl _ | .bl _, .non | .non, .str _ | .str _, .non => some false
  | .int i, .int j => some (decide (i = j))
  | .bl i, .bl j => some (decide (i = j))
  | .str i, .str j => some (decide (i = j))
  | .int _, .str _ | .str _, .int _ | .bl _, .str _ | .str _, .bl _ => some false
  | _, _ => none
def eqD (x y : D) : Option Bool := match scalD x y with
  | some b => some b
  | none => match D.py x, D.py y with
    | some p, some q => if SeqAt.shaped p && SeqAt.shaped q then some (PyData.eqv p q) else none
    | _, _ => none
def inList (x : D) (ys : List D) : Option Bool := match D.py x, D.pys ys with
  | some p, some qs => if SeqAt.shaped p && SeqAt.shaped (.list qs) then some (qs.any fun z => PyData.eqv z p) else none
  | _, _ => none
/-! dicts: what may be a key, the same key -/
def D.isKey : D → Bool
  | .int _ | .str _ => true
  | _ => false
def keq : D → D → Bool
  | .int i, .int j => decide (i = j)
  | .str a, .str b => decide (a = b)
  | _, _ => false
def lookD : List D → List D → D → Option D
  | k :: ks, v :: vs, x => if keq k x then some v else lookD ks vs x
  | _, _, _ => none
def putD (ks vs : List D) (k v : D) : List D × List D := if ks.any (fun c => keq c k) then (ks, (ks.zip vs).map fun p => if keq p.1 k then v else p.2) else (ks ++ [k], vs ++ [v])
def inDc (x y : D) : Option Bool := match y with
  | .dct ks _ => if x.isKey then some (ks.any fun c => keq c x) else none
  | _ => none
def inD (x y : D) : Option Bool := match x, y with
  | .str [c], .str z => some (decide (c ∈ z))
  | x, .lst ys => inList x ys
  | x, y => inDc x y
def cmpD (op : CmpOp) (x y : D) : Option Bool := match op with
  | .Eq => eqD x y
  | .NotEq => (eqD x y).map (!·)
  | .Lt => match x, y with
    | .int i, .int j => some (decide (i < j))
    | _, _ => none
  | .LtE => match x, y with
    | .int i, .int j => some (decide (i ≤ j))
    | _, _ => none
  | .Gt => match x, y with
    | .int i, .int j => some (decide (j < i))
    | _, _ => none
  | .GtE => match x, y with
    | .int i, .int j => some (decide (j ≤ i))
    | _, _ => none
  | .Is => match y with
    | .non => some x.isNon
    | _ => none
  | .IsNot => match y with
    | .non => some (!x.isNon)
    | _ => none
  | .In => inD x y
  | .NotIn => (inD x y).map (!·)
def truD : D → Option Bool
  | .non => some false
  | .bl b => some b
  | .int i => some (i != 0)
  | .str s => if lineOk s.length then some (!s.isEmpty) else none
  | .lst xs => some (!xs.isEmpty)
  | .tup xs => some (!xs.isEmpty)
  | .dct ks _ => some (!ks.isEmpty)
  | .fn _ => none
  | .scr _ => none
def ixD (x y : D) : Option D := match x, y with
  | .lst xs, .int i => atI xs i
  | .tup xs, .int i => atI xs i
  | .str s, .int i => if lineOk s.length then (atI s i).map fun c => .str [c] else none
  | .dct ks vs, x => if x.isKey then lookD ks vs x else none
  | _, _ => none
def cutD (xs : List α) (lo hi : Option Int) : List α := (xs.drop (HT.sIx xs.length 0 lo)).take (HT.sIx xs.length xs.length hi - HT.sIx xs.length 0 lo)
def slD (x : D) (lo hi : Option Int) : Option (D × Bool) := match x with
  | .lst xs => some (.lst (cutD xs lo hi), true)
  | .tup xs => some (.tup (cutD xs lo hi), false)
  | .str s => if lineOk s.length then some (.str (cutD s lo hi), false) else none
  | _ => none
/-! ### built-ins -/
inductive Bi where
  | len | intF | strF | absF | sum | min1 | max1 | min2 | max2 | sorted | listF | tupleF
deriving DecidableEq
def ints? : List D → Option (List Int)
  | [] => some []
  | .int i :: r => (ints? r).map (i :: ·)
  | _ => none
def strs? : List D → Option (List (List Nat))
  | [] => some []
  | .str i :: r => (strs? r).map (i :: ·)
  | _ => none
def minL : List Int → Int
  | [] => 0
  | [x] => x
  | x :: r => min x (minL r)
def maxL : List Int → Int
  | [] => 0
  | [x] => x
  | x :: r => max x (maxL r)
def sortI (xs : List Int) : List Int := xs.mergeSort (fun a b => decide (a ≤ b))
def codesOf (i : Int) : List Nat := (toString i).toList.map Char.toNat
def biD (b : Bi) (xs : List D) : Option (D × Bool) := match b, xs with
  | .len, [.str s] => if lineOk s.length then some (.int s.length, false) else none
  | .len, [.lst ys] => some (.int ys.length, false)
  | .len, [.tup ys] => some (.int ys.length, false)
  | .len, [.dct ks _] => some (.int ks.length, false)
  | .intF, [.int i] => some (.int i, false)
  | .intF, [.str s] => if decide (s.length ≤ 640) then (PySem.intText? ⟨s.toArray⟩).map fun n => (.int n, false) else none
  | .intF, [.bl k] => some (.int (if k then 1 else 0), false)
  | .absF, [.int i] => some (.int (if i < 0 then -i else i), false)
  | .strF, [.int i] => if decide (i.natAbs.log2 < 1920) then some (.str (codesOf i), false) else none
  | .sum, [.lst ys] => (ints? ys).map fun ns => (.int ns.sum, false)
  | .min1, [.lst ys] => match ints? ys with
    | some (n :: ns) => some (.int (minL (n :: ns)), false)
    | _ => none
  | .max1, [.lst ys] => match ints? ys with
    | some (n :: ns) => some (.int (maxL (n :: ns)), false)
    | _ => none
  | .min2, [.int i, .int j] => some (.int (if j < i then j else i), false)
  | .max2, [.int i, .int j] => some (.int (if j > i then j else i), false)
  | .sorted, [.lst ys] => (ints? ys).map fun ns => (.lst ((sortI ns).map .int), true)
  | .listF, [.lst ys] => some (.lst ys, true)
  | .listF, [.tup ys] => some (.lst ys, true)
  | .listF, [.dct ks _] => some (.lst ks, true)
  | .tupleF, [.lst ys] => some (.tup ys, false)
  | .tupleF, [.tup ys] => some (.tup ys, false)
  | _, _ => none
inductive Ty where
  | int | bool | str | list | tuple | dict
deriving DecidableEq
def isiD (x : D) (t : Ty) : Option Bool := match x with
  | .fn _ => none
  | .scr _ => none
  | .non => some false
  | .bl _ => some (match t with | .bool => true | .int => true | _ => false)
  | .int _ => some (match t with | .int => true | _ => false)
  | .str _ => some (match t with | .str => true | _ => false)
  | .lst _ => some (match t with | .list => true | _ => false)
  | .tup _ => some (match t with | .tuple => true | _ => false)
  | .dct _ _ => some (match t with | .dict => true | _ => false)
/-- methods that change nothing -/
inductive Me where
  | join | index | lcount | scount
deriving DecidableEq
def meD (m : Me) (x : D) (xs : List D) : Option (D × Bool) := match m, x, xs with
  | .join, .str s, [.lst ys] => match strs? ys with
    | some zs => if lineOk ((zs.map (·.length)).sum + zs.length * s.length) then some (.str (TL.joinL s zs), false) else none
    | none => none
  | .index, .lst ys, [.int i] => match ints? ys with
    | some ns => if i ∈ ns then some (.int (ns.idxOf i), false) else none
    | none => none
  | .lcount, .lst ys, [.int i] => (ints? ys).map fun ns => (.int (ns.count i), false)
  | .scount, .str a, [.str b] => some (.int (Txt.count ⟨a.toArray⟩ ⟨b.toArray⟩), false)
  | _, _, _ => none
/-- of which kind the receiver is -/
def meTy (m : Me) (x : D) : Bool := match m, x with
  | .join, .str _ => true
  | .index, .lst _ => true
  | .lcount, .lst _ => true
  | .scount, .str _ => true
  | _, _ => false
/-- methods that change their list, told of what it holds -/
inductive Mu where
  | append | pop
deriving DecidableEq
/-- the new content, the answer -/
def muD (m : Mu) (x : D) (xs : List D) : Option (D × D) := match m, x, xs with
  | .append, .lst ys, [y] => if decide (ys.length < sizeLine) then some (.lst (ys ++ [y]), .non) else none
  | .pop, .lst ys, [] => match ys[ys.length - 1]? with
    | some y => some (.lst ys.dropLast, y)
    | none => none
  | _, _, _ => none
def muTy (m : Mu) (x : D) : Bool := match m, x with
  | .append, .lst _ => true
  | .pop, .lst _ => true
  | _, _ => false
def muOk (m : Mu) (e : Ev) (i : Nat) : Bool := match e.getD i .no with
  | .ow d => muTy m d
  | _ => false
/-- x[i] = y, told of what x holds -/
def setD (x i y : D) : Option D := match x, i with
  | .lst ys, .int k => (ixN ys.length k).map fun j => .lst (ys.set j y)
  | .dct ks vs, k => if k.isKey && decide (ks.length < sizeLine) then some (.dct (putD ks vs k y).1 (putD ks vs k y).2) else none
  | _, _ => none
/-! ### the text -/
inductive Tg where
  | nm (i : Nat) | tp (is : List Nat)
inductive SE where
  | var (i : Nat) | lit (d : D) | glo (g : Nat) | fnv (f : Nat)
  | bin (op : Operator) (a b : SE) | una (op : UnaryOp) (a : SE) | cmp (op : CmpOp) (a b : SE) | cmp2 (o p : CmpOp) (a b c : SE)
  | and (a b : SE) | or (a b : SE) | not (a : SE) | ife (c a b : SE)
  | lst (xs : SE) | tup (xs : SE) | ix (a b : SE) | sl (a lo hi : SE)
  | call (f : Nat) (xs : SE) | callv (i : Nat) (xs : SE) | bi (b : Bi) (xs : SE) | isi (a : SE) (t : Ty) | me (m : Me) (r xs : SE) | mu (m : Mu) (i : Nat) (xs : SE)
  | comp (e : SE) (tg : Tg) (it : SE) (c : SE) (own : List (Str × Nat))
  | rng1 (a : SE) | rng2 (a b : SE)
  | lrng1 (a : SE) | lrng2 (a b : SE) | dnew
  | dcomp (kx vx : SE) (tg : Tg) (it : SE) (c : SE) (own : List (Str × Nat))
  | nop | nil | cons (a xs : SE)
inductive SS where
  | skip | seq (s r : SS)
  | expr (e : SE) | asg (i : Nat) (e : SE) | asgT (is : List Nat) (e : SE) | asgI (i : Nat) (k e : SE) | aug (i : Nat) (op : Operator) (e : SE)
  | ret (e : SE) | retN | cond (c : SE) (a b : SS) | forS (tg : Tg) (it : SE) (b : SS) | whil (c : SE) (b : SS)
  | brk | cont | raise (c : Nat) | tryS (b : SS) (hs : SS) | hnd (c : Nat) (s r : SS)
structure Fn where
  name : Str
  np : Nat
  N : List Str
  io : List Bool
  body : SS
structure Cfg where
  fns : List Fn
  exs : List Str
  sub : List (List Bool)
  glos : List (Str × D)
  fuel : Nat
/-! ### what is borrowed -/
inductive Bor where
  | dat (d : D) | slot (i : Nat)
def Bor.res (e : Ev) : Bor → Option D
  | .dat d => some d
  | .slot i => (e.getD i .no).get?
def Bor.frz (e : Ev) : Bor → Ev
  | .dat _ => e
  | .slot i => e.set i (e.getD i .no).frz
def ress (e : Ev) : List Bor → Option (List D)
  | [] => some []
  | b :: r => match b.res e, ress e r with
    | some d, some ds => some (d :: ds)
    | _, _ => none
def frzs (e : Ev) : List Bor → Ev
  | [] => e
  | b :: r => frzs (b.frz e) r
/-! ### calls -/
/-- the slots that are handed on, the caller's frame meanwhile -/
def mkArgs : Ev → List Bool → List Bor → Option (List Sl × Ev)
  | e, _, [] => some ([], e)
  | e, true :: io, .slot i :: r => match e.getD i .no with
    | .ow d => (mkArgs (e.set i .no) io r).map fun z => (.ow d :: z.1, z.2)
    | _ => none
  | _, true :: _, .dat _ :: _ => none
  | e, false :: io, b :: r => match b.res e with
    | some d => (mkArgs (b.frz e) io r).map fun z => (.sh d :: z.1, z.2)
    | none => none
  | e, [], b :: r => match b.res e with
    | some d => (mkArgs (b.frz e) [] r).map fun z => (.sh d :: z.1, z.2)
    | none => none
/-- what was handed on comes back -/
def putIos (e' : Ev) : Ev → Nat → List Bool → List Bor → Ev
  | e, _, _, [] => e
  | e, j, true :: io, .slot i :: r => putIos e' (e.set i (e'.getD j .no)) (j + 1) io r
  | e, j, true :: io, .dat _ :: r => putIos e' e (j + 1) io r
  | e, j, false :: io, _ :: r => putIos e' e (j + 1) io r
  | e, j, [], _ :: r => putIos e' e (j + 1) [] r
def doCall (call : Nat → List Sl → FR) (io : List Bool) (f : Nat) (bs : List Bor) (e : Ev) : R (D × Bool) := match mkArgs e io bs with
  | none => .st
  | some (sls, ec) => match call f sls with
    | .st => .st
    | .er c e' => .er c (putIos e' ec 0 io bs)
    | .ok d fr e' => if d.flat && !(io.any id) then .ok (d, fr) e else .ok (d, fr) (putIos e' ec 0 io bs)
/-! ### targets -/
def mkSl (d : D) (fr : Bool) : Sl := if fr && d.mutb then .ow d else .sh d
def setAll : List Nat → List D → Ev → Option Ev
  | [], [], e => some e
  | i :: is, d :: ds, e => setAll is ds (e.set i (.sh d))
  | _, _, _ => none
def tgD (tg : Tg) (d : D) (e : Ev) : Option Ev := match tg with
  | .nm i => some (e.set i (.sh d))
  | .tp is => match d with
    | .tup ds => setAll is ds e
    | _ => none
def wipeE (e : Ev) : List Nat → Ev
  | [] => e
  | v :: vs => (wipeE e vs).set v .no
def putBack (e e0 : Ev) : List Nat → Ev
  | [] => e
  | v :: vs => (putBack e e0 vs).set v (e0.getD v .no)
/-- what a walk over data gives -/
def itemsD : D → Option (List D)
  | .lst xs => some xs
  | .tup xs => some xs
  | .str s => some (s.map fun c => .str [c])
  | .scr ns => some (ns.map .int)
  | _ => none
def rngL (i : Int) : Nat → List D
  | 0 => []
  | n + 1 => .int i :: rngL (i + 1) n
def smallI (i : Int) : Bool := Nat.ble i.natAbs 4611686018427387903
/-! ### loops -/
def compL (vs : List Nat) (tg : Tg) (test : Ev → R Bool) (elt : Ev → R (D × Bool)) : List D → List D → Ev → R (List D)
  | [], acc, e => .ok acc (wipeE e vs)
  | d :: ds, acc, e => match tgD tg d (wipeE e vs) with
    | none => .st
    | some e1 => match test e1 with
      | .ok true e2 => match elt e2 with
        | .ok y e3 => if decide (acc.length < sizeLine) then compL vs tg test elt ds (acc ++ [y.1]) e3 else .st
        | _ => .st
      | .ok false e2 => compL vs tg test elt ds acc e2
      | _ => .st
/-- a dict's comprehension -/
def dcompL (vs : List Nat) (tg : Tg) (test : Ev → R Bool) (kf vf : Ev → R (D × Bool)) : List D → List D → List D → Ev → R (List D × List D)
  | [], ks, ws, e => .ok (ks, ws) (wipeE e vs)
  | d :: ds, ks, ws, e => match tgD tg d (wipeE e vs) with
    | none => .st
    | some e1 => match test e1 with
      | .ok true e2 => match kf e2 with
        | .ok y e3 => match vf e3 with
          | .ok z e4 => if y.1.isKey && decide (ks.length < sizeLine) then dcompL vs tg test kf vf ds (putD ks ws y.1 z.1).1 (putD ks ws y.1 z.1).2 e4 else .st
          | _ => .st
        | _ => .st
      | .ok false e2 => dcompL vs tg test kf vf ds ks ws e2
      | _ => .st
def forL (tg : Tg) (body : Ev → Out) : List D → Ev → Out
  | [], e => .nx e
  | d :: ds, e => match tgD tg d e with
    | none => .st
    | some e1 => match body e1 with
      | .nx e2 => forL tg body ds e2
      | .ct e2 => forL tg body ds e2
      | .bk e2 => .nx e2
      | o => o
def whileL (test : Ev → R Bool) (body : Ev → Out) : Nat → Ev → Out
  | 0, _ => .st
  | n + 1, e => match test e with
    | .ok true e1 => match body e1 with
      | .nx e2 => whileL test body n e2
      | .ct e2 => whileL test body n e2
      | .bk e2 => .nx e2
      | o => o
    | .ok false e1 => .nx e1
    | .er c e1 => .er c e1
    | .st => .st
/-! ### expressions -/
structure EvR where
  f : Ev → R (D × Bool)
  t : Ev → R Bool
  b : Ev → R Bor
  bs : Ev → R (List Bor)
  o : Ev → R (Option Int)
  i : Ev → R (List D)
def ofF (f : Ev → R (D × Bool)) : EvR where
  f := f
  t := fun e => (f e).bind fun x e1 => R.of (truD x.1) e1
  b := fun e => (f e).bind fun x e1 => .ok (.dat x.1) e1
  bs := fun _ => .st
  o := fun e => (f e).bind fun x e1 => match x.1 with
    | .int i => .ok (some i) e1
    | _ => .st
  i := fun e => (f e).bind fun x e1 => R.of (itemsD x.1) e1
def noR : EvR where
  f := fun _ => .st
  t := fun _ => .st
  b := fun _ => .st
  bs := fun _ => .st
  o := fun _ => .st
  i := fun _ => .st
/-- two borrowed operands -/
def with2 (A B : EvR) (e : Ev) (k : D → D → Ev → R (D × Bool)) : R (D × Bool) := (A.b e).bind fun x e1 => (B.b e1).bind fun y e2 => match x.res e2, y.res e2 with
  | some d, some d' => k d d' e2
  | _, _ => .st
def with1 {α : Type} (A : EvR) (e : Ev) (k : D → Ev → R α) : R α := (A.b e).bind fun x e1 => match x.res e1 with
  | some d => k d e1
  | none => .st
def withs {α : Type} (A : EvR) (e : Ev) (k : List D → List Bor → Ev → R α) : R α := (A.bs e).bind fun bs e1 => match ress e1 bs with
  | some ds => k ds bs e1
  | none => .st
def bl2 (o : Option Bool) (e : Ev) : R (D × Bool) := R.of (o.map fun k => (.bl k, false)) e
def dat (o : Option D) (e : Ev) : R (D × Bool) := R.of (o.map fun d => (d, false)) e
section
variable (G : Cfg) (call : Nat → List Sl → FR)
def goCall (f : Nat) (bs : List Bor) (e : Ev) : R (D × Bool) := match G.fns[f]? with
  | some fi => if fi.np = bs.length then doCall call fi.io f bs e else .st
  | none => .st
def evR : SE → EvR
  | .var i => { ofF (fun e => match e.getD i .no with
      | .no => .st
      | .sh d => .ok (d, false) e
      | .ow d => .ok (d, false) (e.set i (.sh d))) with
    t := fun e => match (e.getD i .no).get? with
      | some d => R.of (truD d) e
      | none => .st
    b := fun e => match e.getD i .no with
      | .no => .st
      | .sh d => .ok (.dat d) e
      | .ow _ => .ok (.slot i) e }
  | .lit d => ofF fun e => .ok (d, false) e
  | .glo g => ofF fun e => match G.glos[g]? with
    | some p => .ok (p.2, false) e
    | none => .st
  | .fnv f => ofF fun e => .ok (.fn f, false) e
  | .bin op a b => ofF fun e => with2 (evR a) (evR b) e fun d d' e2 => R.of (binD op d d') e2
  | .una op a => ofF fun e => with1 (evR a) e fun d e1 => dat (unD op d) e1
  | .cmp op a b => ofF fun e => with2 (evR a) (evR b) e fun d d' e2 => bl2 (cmpD op d d') e2
  | .cmp2 o p a b c => ofF fun e => ((evR a).b e).bind fun x e1 => ((evR b).b e1).bind fun y e2 => match x.res e2, y.res e2 with
    | some d, some d' => match cmpD o d d' with
      | some true => ((evR c).b e2).bind fun z e3 => match y.res e3, z.res e3 with
        | some d1, some d2 => bl2 (cmpD p d1 d2) e3
        | _, _ => .st
      | some false => .ok (.bl false, false) e2
      | none => .st
    | _, _ => .st
  | .and a b => { ofF (fun e => ((evR a).f e).bind fun x e1 => match truD x.1 with
      | some true => (evR b).f e1
      | some false => .ok x e1
      | none => .st) with
    t := fun e => ((evR a).t e).bind fun k e1 => match k with
      | true => (evR b).t e1
      | false => .ok false e1 }
  | .or a b => { ofF (fun e => ((evR a).f e).bind fun x e1 => match truD x.1 with
      | some true => .ok x e1
      | some false => (evR b).f e1
      | none => .st) with
    t := fun e => ((evR a).t e).bind fun k e1 => match k with
      | true => .ok true e1
      | false => (evR b).t e1 }
  | .not a => { ofF (fun e => with1 (evR a) e fun d e1 => bl2 ((truD d).map (!·)) e1) with
    t := fun e => ((evR a).t e).bind fun k e1 => .ok (!k) e1 }
  | .ife c a b => { ofF (fun e => ((evR c).t e).bind fun k e1 => match k with
      | true => (evR a).f e1
      | false => (evR b).f e1) with
    t := fun e => ((evR c).t e).bind fun k e1 => match k with
      | true => (evR a).t e1
      | false => (evR b).t e1 }
  | .lst xs => ofF fun e => withs (evR xs) e fun ds bs e1 => if lineOk ds.length then .ok (.lst ds, true) (frzs e1 bs) else .st
  | .tup xs => ofF fun e => withs (evR xs) e fun ds bs e1 => if lineOk ds.length then .ok (.tup ds, false) (frzs e1 bs) else .st
  | .ix a b => ofF fun e => with2 (evR a) (evR b) e fun d d' e2 => dat (ixD d d') e2
  | .sl a lo hi => ofF fun e => ((evR a).b e).bind fun x e1 => ((evR lo).o e1).bind fun l e2 => ((evR hi).o e2).bind fun h e3 => match x.res e3 with
    | some d => R.of (slD d l h) e3
    | none => .st
  | .call f xs => ofF fun e => ((evR xs).bs e).bind fun bs e1 => goCall G call f bs e1
  | .callv i xs => ofF fun e => match e.getD i .no with
    | .sh (.fn f) => match G.fns[f]? with
      | some _ => ((evR xs).bs e).bind fun bs e1 => goCall G call f bs e1
      | none => .st
    | _ => .st
  | .bi b xs => ofF fun e => withs (evR xs) e fun ds _ e1 => R.of (biD b ds) e1
  | .isi a t => ofF fun e => with1 (evR a) e fun d e1 => bl2 (isiD d t) e1
  | .me m r xs => ofF fun e => ((evR r).b e).bind fun x e1 => match x.res e1 with
    | some d0 => if meTy m d0 then ((evR xs).bs e1).bind fun bs e2 => match x.res e2, ress e2 bs with
        | some d, some ds => R.of (meD m d ds) e2
        | _, _ => .st
      else .st
    | none => .st
  | .mu m i xs => ofF fun e => if muOk m e i then ((evR xs).bs e).bind fun bs e1 => match ress e1 bs with
      | some ds => match (frzs e1 bs).getD i .no with
        | .ow d => match muD m d ds with
          | some (d', r) => .ok (r, false) ((frzs e1 bs).set i (.ow d'))
          | none => .st
        | _ => .st
      | none => .st
    else .st
  | .comp el tg it c own => ofF fun e => ((evR it).i e).bind fun ds e1 =>
      (compL (own.map (·.2)) tg (evR c).t (evR el).f ds [] e1).bind fun ys e2 => .ok (.lst ys, true) (putBack e2 e1 (own.map (·.2)))
  | .rng1 a => { noR with i := fun e => ((evR a).f e).bind fun x e1 => match x.1 with
      | .int j => if smallI j then .ok (rngL 0 j.toNat) e1 else .st
      | _ => .st }
  | .rng2 a b => { noR with i := fun e => ((evR a).f e).bind fun x e1 => ((evR b).f e1).bind fun y e2 => match x.1, y.1 with
      | .int i, .int j => if smallI i && smallI j then .ok (rngL i (j - i).toNat) e2 else .st
      | _, _ => .st }
  | .lrng1 a => ofF fun e => ((evR a).f e).bind fun x e1 => match x.1 with
      | .int j => if Nat.ble j.natAbs 8388608 then .ok (.lst (rngL 0 j.toNat), true) e1 else .st
      | _ => .st
  | .lrng2 a b => ofF fun e => ((evR a).f e).bind fun x e1 => ((evR b).f e1).bind fun y e2 => match x.1, y.1 with
      | .int i, .int j => if Nat.ble i.natAbs 8388608 && Nat.ble j.natAbs 8388608 then .ok (.lst (rngL i (j - i).toNat), true) e2 else .st
      | _, _ => .st
  | .dnew => ofF fun e => .ok (.dct [] [], true) e
  | .dcomp kx vx tg it c own => ofF fun e => ((evR it).i e).bind fun ds e1 =>
      (dcompL (own.map (·.2)) tg (evR c).t (evR kx).f (evR vx).f ds [] [] e1).bind fun ys e2 => .ok (.dct ys.1 ys.2, true) (putBack e2 e1 (own.map (·.2)))
  | .nop => { noR with t := fun e => .ok true e, o := fun e => .ok none e }
  | .nil => { noR with bs := fun e => .ok [] e }
  | .cons a xs => { noR with bs := fun e => ((evR a).b e).bind fun b e1 => ((evR xs).bs e1).bind fun bs e2 => .ok (b :: bs) e2 }
/-! ### statements -/
def isHd (h c : Nat) : Bool := (G.sub.getD c []).getD h false
def R.out {α : Type} (r : R α) (k : α → Ev → Out) : Out := match r with
  | .ok a e => k a e
  | .er c e => .er c e
  | .st => .st
/-- io: the slots that a caller handed on, never stored anew -/
def ioAt (io : List Bool) (i : Nat) : Bool := io.getD i false
def tgOk (io : List Bool) : Tg → Bool
  | .nm i => !ioAt io i
  | .tp is => is.all fun i => !ioAt io i
structure ExR where
  x : Ev → Out
  /-- the clauses of a try: what is raised, the frame -/
  h : Nat → Ev → Out
def ofX (x : Ev → Out) : ExR := ⟨x, fun _ _ => .st⟩
def exR (io : List Bool) : SS → ExR
  | .skip => ⟨fun e => .nx e, fun c e => .er c e⟩
  | .seq s r => ofX fun e => match (exR io s).x e with
    | .nx e1 => (exR io r).x e1
    | o => o
  | .expr a => ofX fun e => ((evR G call a).f e).out fun _ e1 => .nx e1
  | .asg i a => ofX fun e => if ioAt io i then .st else ((evR G call a).f e).out fun x e1 => .nx (e1.set i (mkSl x.1 x.2))
  | .asgT is a => ofX fun e => if is.all (fun i => !ioAt io i) then ((evR G call a).f e).out fun x e1 => match tgD (.tp is) x.1 e1 with
      | some e2 => .nx e2
      | none => .st
    else .st
  | .asgI i k a => ofX fun e => ((evR G call a).b e).out fun y e1 => match e1.getD i .no with
    | .ow _ => ((evR G call k).f e1).out fun j e2 => match y.res e2 with
      | some d => match (y.frz e2).getD i .no with
        | .ow c => match setD c j.1 d with
          | some c' => .nx ((y.frz e2).set i (.ow c'))
          | none => .st
        | _ => .st
      | none => .st
    | _ => .st
  | .aug i op a => ofX fun e => if ioAt io i then .st else match e.getD i .no with
    | .sh d => ((evR G call a).f e).out fun x e1 => (R.of (augD op d x.1) e1).out fun z e2 => .nx (e2.set i (.sh z))
    | _ => .st
  | .ret a => ofX fun e => match a with
    | .var i => if ioAt io i then ((evR G call a).f e).out fun x e1 => .rt x.1 x.2 e1 else match e.getD i .no with
      | .no => .st
      | .sh d => .rt d false e
      | .ow d => .rt d true (e.set i .no)
    | _ => ((evR G call a).f e).out fun x e1 => .rt x.1 x.2 e1
  | .retN => ofX fun e => .rt .non false e
  | .cond c a b => ofX fun e => ((evR G call c).t e).out fun k e1 => match k with
    | true => (exR io a).x e1
    | false => (exR io b).x e1
  | .forS tg it b => ofX fun e => if tgOk io tg then ((evR G call it).i e).out fun ds e1 => forL tg (exR io b).x ds e1 else .st
  | .whil c b => ofX fun e => whileL (evR G call c).t (exR io b).x G.fuel e
  | .brk => ofX fun e => .bk e
  | .cont => ofX fun e => .ct e
  | .raise c => ofX fun e => .er c e
  | .tryS b hs => ofX fun e => match (exR io b).x e with
    | .er c e1 => (exR io hs).h c e1
    | o => o
  | .hnd c s r => ⟨fun _ => .st, fun c' e => if c' < G.exs.length then (if isHd G c c' then (match (exR io s).x e with
      | .er _ _ => .st
      | o => o) else (exR io r).h c' e) else .st⟩
end
/-- a def's call, to the depth k -/
def fnEval (G : Cfg) : Nat → Nat → List Sl → FR
  | 0, _, _ => .st
  | k + 1, f, sls => match G.fns[f]? with
    | none => .st
    | some fi => if fi.np = sls.length then match (exR G (fnEval G k) fi.io fi.body).x (sls ++ List.replicate (fi.N.length - sls.length) .no) with
        | .rt d fr e => .ok d fr e
        | .nx e => .ok .non false e
        | .er c e => .er c e
        | _ => .st
      else .st
end EV
/-! The relation between the evaluator's state and the abstract heap. -/
namespace EV
open PySem L2
abbrev Le (F F' : Hp) : Prop := ∀ a o, F a = some o → F' a = some o
theorem Le.refl (F : Hp) : Le F F := fun _ _ h => h
theorem Le.trans {F F1 F2 : Hp} (a : Le F F1) (b : Le F1 F2) : Le F F2 := fun _ _ h => b _ _ (a _ _ h)
theorem Le.upd {F : Hp} {p : Addr} {o : HO} (h : F p = none) : Le F (upd F p o) := fun b x e => by
  rw [upd_ne (ne_of_none e h)]
  exact e
theorem Rd.le {F F' : Hp} {a : Addr} {u : HO} (l : Le F F') (h : Rd F a u) : Rd F' a u := by
  rcases h with h | ⟨o, h⟩
  · exact .inl (l _ _ h)
  · exact .inr ⟨o, l _ _ h⟩
/-- the keys of a dict -/
def keyD : D → Option Key
  | .int i => some (.inl i)
  | .str s => some (.inr ⟨s.toArray⟩)
  | _ => none
def keysD : List D → Option (List Key)
  | [] => some []
  | d :: ds => match keyD d, keysD ds with
    | some k, some ks => some (k :: ks)
    | _, _ => none
section
variable (K : PySem.W.Frag) (fa : Nat → Addr)
mutual
/-- v is the data d, by objects of F that nobody changes any more -/
def DR (F : Hp) : D → V → Prop
  | .non, v => v = .non
  | .bl b, v => v = .bl b
  | .int i, v => v = .int i
  | .str s, v => v = .str ⟨s.toArray⟩
  | .fn i, v => v = .ref (fa i)
  | .scr ns, v => ∃ a, v = .ref a ∧ SqL K F a (ns.map V.int)
  | .lst ds, v => ∃ a vs, v = .ref a ∧ F a = some (.lst vs) ∧ DRs F ds vs
  | .tup ds, v => ∃ a vs, v = .ref a ∧ SqT K F a vs ∧ DRs F ds vs
  | .dct ks ds, v => ∃ a kvs, v = .ref a ∧ F a = some (.dK kvs) ∧ keysD ks = some (kvs.map (·.1)) ∧ DRs F ds (kvs.map (·.2))
def DRs (F : Hp) : List D → List V → Prop
  | [], vs => vs = []
  | d :: ds, vs => ∃ v r, vs = v :: r ∧ DR F d v ∧ DRs F ds r
end
/-- o is an object with the content d -/
def OR (F : Hp) : D → HO → Prop
  | .lst ds, o => ∃ vs, o = .lst vs ∧ DRs K fa F ds vs
  | .tup ds, o => ∃ vs, o = .tup vs ∧ DRs K fa F ds vs
  | .dct ks ds, o => ∃ kvs, o = .dK kvs ∧ keysD ks = some (kvs.map (·.1)) ∧ DRs K fa F ds (kvs.map (·.2))
  | _, _ => False
/-- d is what may be read of v now: the outermost object may change later -/
def CR (F H : Hp) : D → V → Prop
  | .lst ds, v => ∃ a vs, v = .ref a ∧ H a = some (.lst vs) ∧ DRs K fa F ds vs
  | .dct ks ds, v => ∃ a kvs, v = .ref a ∧ H a = some (.dK kvs) ∧ keysD ks = some (kvs.map (·.1)) ∧ DRs K fa F ds (kvs.map (·.2))
  | d, v => DR K fa F d v
end
section
variable {K : PySem.W.Frag} {fa : Nat → Addr} {F F' H : Hp}
theorem SqL.le {a : Addr} {vs : List V} (l : Le F F') (h : SqL K F a vs) : SqL K F' a vs := by
  rcases h with h | h
  · exact .inl (Rd.le l h)
  · exact .inr h
theorem SqT.le {a : Addr} {vs : List V} (l : Le F F') (h : SqT K F a vs) : SqT K F' a vs := by
  rcases h with h | h
  · exact .inl (Rd.le l h)
  · exact .inr h
mutual
theorem DR.le (l : Le F F') : ∀ (d : D) (v : V), DR K fa F d v → DR K fa F' d v
  | .non, v, h => by simpa only [DR] using h
  | .bl b, v, h => by simpa only [DR] using h
  | .int i, v, h => by simpa only [DR] using h
  | .str s, v, h => by simpa only [DR] using h
  | .fn i, v, h => by simpa only [DR] using h
  | .scr ns, v, h => by
    simp only [DR] at h ⊢
    obtain ⟨a, e, s⟩ := h
    exact ⟨a, e, SqL.le l s⟩
  | .lst ds, v, h => by
    simp only [DR] at h ⊢
    obtain ⟨a, vs, e, s, r⟩ := h
    exact ⟨a, vs, e, l _ _ s, DRs.le l ds vs r⟩
  | .tup ds, v, h => by
    simp only [DR] at h ⊢
    obtain ⟨a, vs, e, s, r⟩ := h
    exact ⟨a, vs, e, SqT.le l s, DRs.le l ds vs r⟩
  | .dct ks ds, v, h => by
    simp only [DR] at h ⊢
    obtain ⟨a, kvs, e, s, k, r⟩ := h
    exact ⟨a, kvs, e, l _ _ s, k, DRs.le l ds _ r⟩
theorem DRs.le (l : Le F F') : ∀ (ds : List D) (vs : List V), DRs K fa F ds vs → DRs K fa F' ds vs
  | [], vs, h => by simpa only [DRs] using h
  | d :: ds, vs, h => by
    simp only [DRs] at h ⊢
    obtain ⟨v, r, e, h1, h2⟩ := h
    exact ⟨v, r, e, DR.le l d v h1, DRs.le l ds r h2⟩
end
theorem OR.le (l : Le F F') {d : D} {o : HO} (h : OR K fa F d o) : OR K fa F' d o := by
  cases d <;> simp only [OR] at h ⊢
  · obtain ⟨vs, e, r⟩ := h
    exact ⟨vs, e, DRs.le l _ _ r⟩
  · obtain ⟨vs, e, r⟩ := h
    exact ⟨vs, e, DRs.le l _ _ r⟩
  · obtain ⟨vs, e, k, r⟩ := h
    exact ⟨vs, e, k, DRs.le l _ _ r⟩
theorem DRs.nil : DRs K fa F [] [] := by simp only [DRs]
theorem DRs.cons {d : D} {ds : List D} {v : V} {vs : List V} (h : DR K fa F d v) (h2 : DRs K fa F ds vs) : DRs K fa F (d :: ds) (v :: vs) := by
  simp only [DRs]
  exact ⟨v, vs, rfl, h, h2⟩
theorem DRs.length : ∀ {ds : List D} {vs : List V}, DRs K fa F ds vs → ds.length = vs.length
  | [], vs, h => by
    simp only [DRs] at h
    rw [h] <;> rfl
  | d :: ds, vs, h => by
    simp only [DRs] at h
    obtain ⟨v, r, e, h1, h2⟩ := h
    rw [e, List.length_cons, List.length_cons, DRs.length h2]
theorem DRs.get : ∀ {ds : List D} {vs : List V} {i : Nat} {d : D}, DRs K fa F ds vs → ds[i]? = some d → ∃ v, vs[i]? = some v ∧ DR K fa F d v
  | [], vs, i, d, h, e => by simp at e
  | d :: ds, vs, i, d', h, e => by
    simp only [DRs] at h
    obtain ⟨v, r, e1, h1, h2⟩ := h
    subst e1
    cases i with
    | zero =>
      simp at e
      subst e
      exact ⟨v, rfl, h1⟩
    | succ i =>
      simp at e
      obtain ⟨w, q1, q2⟩ := DRs.get (i := i) h2 e
      exact ⟨w, by simpa using q1, q2⟩
theorem DRs.getV : ∀ {ds : List D} {vs : List V} {i : Nat} {v : V}, DRs K fa F ds vs → vs[i]? = some v → ∃ d, ds[i]? = some d ∧ DR K fa F d v
  | [], vs, i, v, h, e => by
    simp only [DRs] at h
    subst h
    simp at e
  | d :: ds, vs, i, v', h, e => by
    simp only [DRs] at h
    obtain ⟨v, r, e1, h1, h2⟩ := h
    subst e1
    cases i with
    | zero =>
      simp at e
      subst e
      exact ⟨d, rfl, h1⟩
    | succ i =>
      simp at e
      obtain ⟨w, q1, q2⟩ := DRs.getV (i := i) h2 e
      exact ⟨w, by simpa using q1, q2⟩
theorem DRs.append : ∀ {ds es : List D} {vs ws : List V}, DRs K fa F ds vs → DRs K fa F es ws → DRs K fa F (ds ++ es) (vs ++ ws)
  | [], es, vs, ws, h, h2 => by
    simp only [DRs] at h
    subst h
    exact h2
  | d :: ds, es, vs, ws, h, h2 => by
    simp only [DRs] at h
    obtain ⟨v, r, e1, h1, h3⟩ := h
    subst e1
    exact DRs.cons h1 (DRs.append h3 h2)
theorem DRs.take : ∀ {ds : List D} {vs : List V} (n : Nat), DRs K fa F ds vs → DRs K fa F (ds.take n) (vs.take n)
  | [], vs, n, h => by
    simp only [DRs] at h
    subst h
    simp [DRs]
  | d :: ds, vs, n, h => by
    simp only [DRs] at h
    obtain ⟨v, r, e1, h1, h3⟩ := h
    subst e1
    cases n with
    | zero => simp [DRs]
    | succ n => exact DRs.cons h1 (DRs.take n h3)
theorem DRs.drop : ∀ {ds : List D} {vs : List V} (n : Nat), DRs K fa F ds vs → DRs K fa F (ds.drop n) (vs.drop n)
  | [], vs, n, h => by
    simp only [DRs] at h
    subst h
    simp [DRs]
  | d :: ds, vs, n, h => by
    have h0 := h
    simp only [DRs] at h
    obtain ⟨v, r, e1, h1, h3⟩ := h
    subst e1
    cases n with
    | zero => exact h0
    | succ n => exact DRs.drop n h3
theorem DRs.set : ∀ {ds : List D} {vs : List V} {d : D} {v : V} (n : Nat), DR K fa F d v → DRs K fa F ds vs → DRs K fa F (ds.set n d) (vs.set n v)
  | [], vs, d, v, n, h, h2 => by
    simp only [DRs] at h2
    subst h2
    simp [DRs]
  | d :: ds, vs, d', v', n, h, h2 => by
    simp only [DRs] at h2
    obtain ⟨v, r, e1, h1, h3⟩ := h2
    subst e1
    cases n with
    | zero => exact DRs.cons h h3
    | succ n => exact DRs.cons h1 (DRs.set n h h3)
theorem DRs.dropLast {ds : List D} {vs : List V} (h : DRs K fa F ds vs) : DRs K fa F ds.dropLast vs.dropLast := by
  rw [List.dropLast_eq_take, List.dropLast_eq_take, DRs.length h]
  exact DRs.take _ h
theorem DRs.rep {ds : List D} {vs : List V} (h : DRs K fa F ds vs) : ∀ k : Nat, DRs K fa F (List.replicate k ds).flatten (List.replicate k vs).flatten
  | 0 => by simp [DRs]
  | k + 1 => by
    rw [List.replicate_succ, List.replicate_succ, List.flatten_cons, List.flatten_cons]
    exact DRs.append h (DRs.rep h k)
theorem DR.flat_le {d : D} {v : V} (hd : d.flat = true) (h : DR K fa F d v) (F' : Hp) : DR K fa F' d v := by
  cases d <;> first
    | exact absurd hd Bool.false_ne_true
    | (simp only [DR] at h ⊢; exact h)
/-- what is data is readable -/
theorem DR.cr {d : D} {v : V} (l : Le F H) (h : DR K fa F d v) : CR K fa F H d v := by
  cases d <;> simp only [CR] <;> first
    | exact h
    | (simp only [DR] at h
       obtain ⟨a, vs, e, s, r⟩ := h
       exact ⟨a, vs, e, l _ _ s, r⟩)
theorem CR.le {H' : Hp} {d : D} {v : V} (l : Le F F') (l2 : Le H H') (h : CR K fa F H d v) : CR K fa F' H' d v := by
  cases d <;> simp only [CR] at h ⊢
  case lst =>
    obtain ⟨a, vs, e, s, r⟩ := h
    exact ⟨a, vs, e, l2 _ _ s, DRs.le l _ _ r⟩
  case dct =>
    obtain ⟨a, kvs, e, s, k, r⟩ := h
    exact ⟨a, kvs, e, l2 _ _ s, k, DRs.le l _ _ r⟩
  all_goals exact DR.le l _ _ h
/-- an object's content -/
theorem OR.cr {d : D} {o : HO} {p : Addr} (hp : H p = some o) (h : OR K fa F d o) (hm : d.mutb = true) : CR K fa F H d (.ref p) := by
  cases d <;> simp only [OR, CR] at h ⊢
  · obtain ⟨vs, e, r⟩ := h
    subst e
    exact ⟨p, vs, rfl, hp, r⟩
  · cases hm
  · obtain ⟨vs, e, r⟩ := h
    subst e
    exact ⟨p, vs, rfl, hp, r⟩
theorem OR.dr {d : D} {o : HO} {p : Addr} (hp : F p = some o) (h : OR K fa F d o) : DR K fa F d (.ref p) := by
  cases d <;> simp only [OR, DR] at h ⊢
  · obtain ⟨vs, e, r⟩ := h
    subst e
    exact ⟨p, vs, rfl, hp, r⟩
  · obtain ⟨vs, e, r⟩ := h
    subst e
    exact ⟨p, vs, rfl, SqT.of hp, r⟩
  · obtain ⟨vs, e, r⟩ := h
    subst e
    exact ⟨p, vs, rfl, hp, r⟩
theorem OR.container {d : D} {o : HO} (h : OR K fa F d o) : d.flat = false := by
  cases d <;> simp only [OR] at h <;> rfl
end
/-- what a frame began with: data, heap, the objects that were handed on, where they stand -/
structure Bs where
  F : Hp
  H : Hp
  IO : List Addr
  ios : List (Nat × Addr)
section
variable (K : PySem.W.Frag) (fa : Nat → Addr)
def SlR (F H : Hp) : Sl → Option V → Prop
  | .no, _ => True
  | .sh d, w => ∃ v, w = some v ∧ DR K fa F d v
  | .ow d, w => d.mutb = true ∧ ∃ a o, w = some (.ref a) ∧ H a = some o ∧ OR K fa F d o ∧ F a = none
/-- the state -/
structure SR (B : Bs) (F : Hp) (e : Ev) (σ : St) (H : Hp) : Prop where
  sub : Le F H
  mono : Le B.F F
  fresh : ∀ a o, F a = some o → B.F a = none → B.H a = none ∨ a ∈ B.IO
  keep : ∀ a o, B.H a = some o → a ∉ B.IO → H a = some o
  io : ∀ a, a ∈ B.IO → ∃ o, H a = some o
  ios : ∀ p, p ∈ B.ios → σ[p.1]? = some (some (.ref p.2))
  len : e.length = σ.length
  sl : ∀ (i : Nat) (s : Sl) (w : Option V), e[i]? = some s → σ[i]? = some w → SlR K fa F H s w
  own : ∀ (i : Nat) (d : D) (a : Addr), e[i]? = some (.ow d) → σ[i]? = some (some (.ref a)) → B.H a = none ∨ a ∈ B.IO
  inj : ∀ (i j : Nat) (d d' : D) (a : Addr), e[i]? = some (.ow d) → e[j]? = some (.ow d') → σ[i]? = some (some (.ref a)) → σ[j]? = some (some (.ref a)) → i = j
/-- a value; fr: a new object that nobody else holds -/
def FV (B : Bs) (F : Hp) (e : Ev) (σ : St) (H : Hp) (d : D) (fr : Bool) (v : V) : Prop :=
  if fr = true then ∃ p o, v = .ref p ∧ H p = some o ∧ OR K fa F d o ∧ F p = none ∧ (B.H p = none ∨ p ∈ B.IO) ∧ (∀ (i : Nat) (d' : D), e[i]? = some (.ow d') → σ[i]? ≠ some (some (.ref p))) else DR K fa F d v
end
section
variable {K : PySem.W.Frag} {fa : Nat → Addr} {B : Bs} {F F' H H' : Hp} {e : Ev} {σ : St}
theorem FV.sh {d : D} {v : V} (h : DR K fa F d v) : FV K fa B F e σ H d false v := by
  unfold FV
  rw [if_neg Bool.false_ne_true]
  exact h
theorem FV.dr {d : D} {v : V} (h : FV K fa B F e σ H d false v) : DR K fa F d v := by
  unfold FV at h
  rw [if_neg Bool.false_ne_true] at h
  exact h
theorem FV.mk {d : D} {p : Addr} {o : HO} (h1 : H p = some o) (h2 : OR K fa F d o) (h3 : F p = none) (h4 : B.H p = none ∨ p ∈ B.IO) (h5 : ∀ (i : Nat) (d' : D), e[i]? = some (.ow d') → σ[i]? ≠ some (some (.ref p))) :
    FV K fa B F e σ H d true (.ref p) := by
  unfold FV
  rw [if_pos rfl]
  exact ⟨p, o, rfl, h1, h2, h3, h4, h5⟩
theorem FV.new {d : D} {v : V} (h : FV K fa B F e σ H d true v) : ∃ p o, v = .ref p ∧ H p = some o ∧ OR K fa F d o ∧ F p = none ∧ (B.H p = none ∨ p ∈ B.IO) ∧ (∀ (i : Nat) (d' : D), e[i]? = some (.ow d') → σ[i]? ≠ some (some (.ref p))) := by
  unfold FV at h
  rw [if_pos rfl] at h
  exact h
theorem getD_some {e : Ev} {i : Nat} {s : Sl} (h : e[i]? = some s) : e.getD i .no = s := by
  rw [List.getD_eq_getElem?_getD, h] <;> rfl
theorem getD_ow {e : Ev} {i : Nat} {d : D} (h : e.getD i .no = .ow d) : e[i]? = some (.ow d) := by
  rw [List.getD_eq_getElem?_getD] at h
  cases q : e[i]? with
  | none =>
    rw [q] at h
    cases h
  | some s =>
    rw [q] at h
    exact congrArg some h
theorem getD_sh {e : Ev} {i : Nat} {d : D} (h : e.getD i .no = .sh d) : e[i]? = some (.sh d) := by
  rw [List.getD_eq_getElem?_getD] at h
  cases q : e[i]? with
  | none =>
    rw [q] at h
    cases h
  | some s =>
    rw [q] at h
    exact congrArg some h
theorem SR.at (r : SR K fa B F e σ H) {i : Nat} {s : Sl} (h : e[i]? = some s) : ∃ w, σ[i]? = some w ∧ SlR K fa F H s w := by
  have hi : i < σ.length := by
    rw [← r.len]
    exact (List.getElem?_eq_some_iff.mp h).1
  exact ⟨σ[i], List.getElem?_eq_getElem hi, r.sl i s _ h (List.getElem?_eq_getElem hi)⟩
theorem SR.none_of (r : SR K fa B F e σ H) {p : Addr} (hp : H p = none) : F p = none ∧ B.H p = none ∧ p ∉ B.IO := by
  have h1 : p ∉ B.IO := fun z => by
    obtain ⟨o, q⟩ := r.io p z
    rw [hp] at q
    cases q
  refine ⟨?_, ?_, h1⟩
  · cases q : F p with
    | none => rfl
    | some o =>
      have z := r.sub p o q
      rw [hp] at z
      cases z
  · cases q : B.H p with
    | none => rfl
    | some o =>
      have z := r.keep p o q h1
      rw [hp] at z
      cases z
/-- an own object -/
theorem SR.ow (r : SR K fa B F e σ H) {i : Nat} {d : D} (h : e[i]? = some (.ow d)) : ∃ a o, σ[i]? = some (some (.ref a)) ∧ H a = some o ∧ OR K fa F d o ∧ F a = none ∧ (B.H a = none ∨ a ∈ B.IO) ∧ d.mutb = true := by
  obtain ⟨w, h1, h2⟩ := r.at h
  obtain ⟨hm, a, o, e1, h3, h4, h5⟩ := h2
  subst e1
  exact ⟨a, o, h1, h3, h4, h5, r.own i d a h h1, hm⟩
theorem SlR.le {F F' H H' : Hp} {s : Sl} {w : Option V} (h : SlR K fa F H s w) (l : Le F F') (k : ∀ d a o, s = .ow d → w = some (.ref a) → H a = some o → H' a = some o) (kf : ∀ d a, s = .ow d → w = some (.ref a) → F' a = none) : SlR K fa F' H' s w := by
  cases s with
  | no => exact True.intro
  | sh d =>
    obtain ⟨v, e, q⟩ := h
    exact ⟨v, e, DR.le l d v q⟩
  | ow d =>
    obtain ⟨hm, a, o, e, h1, h2, h3⟩ := h
    exact ⟨hm, a, o, e, k d a o rfl e h1, OR.le l h2, kf d a rfl e⟩
/-- a new object -/
theorem SR.new (r : SR K fa B F e σ H) {p : Addr} {o : HO} (hp : H p = none) : SR K fa B F e σ (upd H p o) := by
  have l : Le H (upd H p o) := Le.upd hp
  obtain ⟨h1, h2, h3⟩ := r.none_of hp
  refine ⟨r.sub.trans l, r.mono, r.fresh, fun a u q z => l _ _ (r.keep a u q z), fun a z => ?_, r.ios, r.len, fun i s w q1 q2 => ?_, r.own, r.inj⟩
  · obtain ⟨u, q⟩ := r.io a z
    exact ⟨u, l _ _ q⟩
  · refine (r.sl i s w q1 q2).le (Le.refl F) (fun d a u _ _ q => l _ _ q) fun d a es ew => ?_
    subst es ew
    obtain ⟨_, a', o', q3, _, _, q4⟩ := r.sl i _ _ q1 q2
    cases q3
    exact q4
theorem SR.newV (r : SR K fa B F e σ H) {p : Addr} {o : HO} {d : D} (hp : H p = none) (ho : OR K fa F d o) : FV K fa B F e σ (upd H p o) d true (.ref p) := by
  obtain ⟨h1, h2, h3⟩ := r.none_of hp
  refine FV.mk upd_same ho h1 (.inl h2) fun i d' q1 q2 => ?_
  obtain ⟨a, u, q3, q4, _⟩ := r.ow q1
  rw [q2] at q3
  cases q3
  rw [hp] at q4
  cases q4
/-- more is data than before: an object that no slot holds -/
theorem SR.more (r : SR K fa B F e σ H) {p : Addr} {o : HO} (hp : H p = some o) (hf : F p = none) (hb : B.H p = none ∨ p ∈ B.IO) (ho : ∀ (i : Nat) (d' : D), e[i]? = some (.ow d') → σ[i]? ≠ some (some (.ref p))) :
    SR K fa B (upd F p o) e σ H := by
  have l : Le F (upd F p o) := Le.upd hf
  refine ⟨fun a u q => ?_, r.mono.trans l, fun a u q z => ?_, r.keep, r.io, r.ios, r.len, fun i s w q1 q2 => ?_, r.own, r.inj⟩
  · by_cases ha : a = p
    · subst ha
      rw [upd_same] at q
      cases q
      exact hp
    · rw [upd_ne ha] at q
      exact r.sub a u q
  · by_cases ha : a = p
    · subst ha
      exact hb
    · rw [upd_ne ha] at q
      exact r.fresh a u q z
  · refine (r.sl i s w q1 q2).le l (fun _ _ _ _ _ q => q) fun d a es ew => ?_
    subst es ew
    obtain ⟨_, a', o', q3, _, _, q4⟩ := r.sl i _ _ q1 q2
    cases q3
    rw [upd_ne]
    · exact q4
    · intro z
      subst z
      exact ho i d q1 q2
/-- a value becomes data -/
theorem SR.freeze (r : SR K fa B F e σ H) {d : D} {fr : Bool} {v : V} (h : FV K fa B F e σ H d fr v) : ∃ F', Le F F' ∧ SR K fa B F' e σ H ∧ DR K fa F' d v := by
  cases fr with
  | false => exact ⟨F, Le.refl F, r, h.dr⟩
  | true =>
    obtain ⟨p, o, e1, h1, h2, h3, h4, h5⟩ := h.new
    subst e1
    exact ⟨upd F p o, Le.upd h3, r.more h1 h3 h4 h5, OR.dr upd_same (h2.le (Le.upd h3))⟩
/-- a slot is emptied -/
theorem SR.drop (r : SR K fa B F e σ H) (i : Nat) : SR K fa B F (e.set i .no) σ H := by
  refine ⟨r.sub, r.mono, r.fresh, r.keep, r.io, r.ios, by rw [List.length_set]; exact r.len, fun j s w q1 q2 => ?_, fun j d a q1 q2 => ?_, fun j k d d' a q1 q2 q3 q4 => ?_⟩
  · by_cases hj : i = j
    · subst hj
      by_cases hl : i < e.length
      · rw [List.getElem?_set_self hl] at q1
        cases q1
        exact True.intro
      · rw [List.getElem?_eq_none (by simpa using hl)] at q1
        cases q1
    · rw [List.getElem?_set_ne hj] at q1
      exact r.sl j s w q1 q2
  all_goals
    have g : ∀ {j : Nat} {d : D}, (e.set i .no)[j]? = some (.ow d) → e[j]? = some (.ow d) := fun {j d} q => by
      by_cases hj : i = j
      · subst hj
        by_cases hl : i < e.length
        · rw [List.getElem?_set_self hl] at q
          cases q
        · rw [List.getElem?_eq_none (by simpa using hl)] at q
          cases q
      · rw [List.getElem?_set_ne hj] at q
        exact q
  · exact r.own j d a (g q1) q2
  · exact r.inj j k d d' a (g q1) (g q2) q3 q4
/-- a slot that is filled with data that it holds -/
theorem SR.put (r : SR K fa B F e σ H) {i : Nat} {d : D} {v : V} (hs : σ[i]? = some (some v)) (h : DR K fa F d v) : SR K fa B F (e.set i (.sh d)) σ H := by
  have hl : i < e.length := by
    rw [r.len]
    exact (List.getElem?_eq_some_iff.mp hs).1
  have g : ∀ {j : Nat} {d' : D}, (e.set i (.sh d))[j]? = some (.ow d') → e[j]? = some (.ow d') := fun {j d'} q => by
    by_cases hj : i = j
    · subst hj
      rw [List.getElem?_set_self hl] at q
      cases q
    · rw [List.getElem?_set_ne hj] at q
      exact q
  refine ⟨r.sub, r.mono, r.fresh, r.keep, r.io, r.ios, by rw [List.length_set]; exact r.len, fun j s w q1 q2 => ?_, fun j d a q1 q2 => r.own j d a (g q1) q2, fun j k d d' a q1 q2 q3 q4 => r.inj j k d d' a (g q1) (g q2) q3 q4⟩
  by_cases hj : i = j
  · subst hj
    rw [List.getElem?_set_self hl] at q1
    cases q1
    rw [hs] at q2
    cases q2
    exact ⟨v, rfl, h⟩
  · rw [List.getElem?_set_ne hj] at q1
    exact r.sl j s w q1 q2
/-- an own object becomes data -/
theorem SR.frzSlot (r : SR K fa B F e σ H) {i : Nat} {d : D} (h : e[i]? = some (.ow d)) : ∃ F' v, Le F F' ∧ SR K fa B F' (e.set i (.sh d)) σ H ∧ σ[i]? = some (some v) ∧ DR K fa F' d v := by
  obtain ⟨a, o, h1, h2, h3, h4, h5, hm⟩ := r.ow h
  have hl : i < e.length := (List.getElem?_eq_some_iff.mp h).1
  have r1 := (r.drop i).more h2 h4 h5 fun j d' q1 q2 => by
    by_cases hj : i = j
    · subst hj
      rw [List.getElem?_set_self hl] at q1
      cases q1
    · rw [List.getElem?_set_ne hj] at q1
      exact hj (r.inj i j d d' a h q1 h1 q2)
  have dr : DR K fa (upd F a o) d (.ref a) := OR.dr upd_same (h3.le (Le.upd h4))
  have r2 := r1.put h1 dr
  rw [List.set_set] at r2
  exact ⟨upd F a o, .ref a, Le.upd h4, r2, h1, dr⟩
/-- a slot as it is, told to be data -/
theorem SR.frz (r : SR K fa B F e σ H) (i : Nat) : ∃ F', Le F F' ∧ SR K fa B F' (e.set i (e.getD i .no).frz) σ H := by
  cases q : e[i]? with
  | none =>
    have z : e.set i (e.getD i .no).frz = e := List.set_eq_of_length_le (List.getElem?_eq_none_iff.mp q)
    rw [z]
    exact ⟨F, Le.refl F, r⟩
  | some s =>
    rw [getD_some q]
    cases s with
    | no => exact ⟨F, Le.refl F, r.drop i⟩
    | sh d =>
      obtain ⟨w, h1, v, h2, h3⟩ := r.at q
      subst h2
      exact ⟨F, Le.refl F, r.put h1 h3⟩
    | ow d =>
      obtain ⟨F', v, l, r', _⟩ := r.frzSlot q
      exact ⟨F', l, r'⟩
/-- an own object changes -/
theorem SR.write (r : SR K fa B F e σ H) {i : Nat} {d d' : D} {a : Addr} {o' : HO} (h : e[i]? = some (.ow d)) (ha : σ[i]? = some (some (.ref a))) (h' : OR K fa F d' o') (hm' : d'.mutb = true) : SR K fa B F (e.set i (.ow d')) σ (upd H a o') := by
  obtain ⟨a', o, h1, h2, h3, h4, h5, hm⟩ := r.ow h
  rw [ha] at h1
  cases h1
  have hl : i < e.length := (List.getElem?_eq_some_iff.mp h).1
  have g : ∀ {j : Nat} {d2 : D}, (e.set i (.ow d'))[j]? = some (.ow d2) → ∃ d3, e[j]? = some (.ow d3) := fun {j d2} q => by
    by_cases hj : i = j
    · subst hj
      exact ⟨d, h⟩
    · rw [List.getElem?_set_ne hj] at q
      exact ⟨d2, q⟩
  refine ⟨fun b u q => ?_, r.mono, r.fresh, fun b u q z => ?_, fun b z => ?_, r.ios, by rw [List.length_set]; exact r.len, fun j s w q1 q2 => ?_, fun j d2 b q1 q2 => ?_, fun j k d2 d3 b q1 q2 q3 q4 => ?_⟩
  · have hb : b ≠ a := fun z => by
      subst z
      rw [h4] at q
      cases q
    rw [upd_ne hb]
    exact r.sub b u q
  · have hb : b ≠ a := fun y => by
      subst y
      rcases h5 with y | y
      · rw [y] at q
        cases q
      · exact z y
    rw [upd_ne hb]
    exact r.keep b u q z
  · by_cases hb : b = a
    · subst hb
      exact ⟨o', upd_same⟩
    · rw [upd_ne hb]
      exact r.io b z
  · by_cases hj : i = j
    · subst hj
      rw [List.getElem?_set_self hl] at q1
      cases q1
      rw [ha] at q2
      cases q2
      exact ⟨hm', a, o', rfl, upd_same, h', h4⟩
    · rw [List.getElem?_set_ne hj] at q1
      refine (r.sl j s w q1 q2).le (Le.refl F) (fun d2 b u es ew q => ?_) fun d2 b es ew => ?_
      · subst es ew
        rw [upd_ne]
        · exact q
        · intro z
          subst z
          exact hj (r.inj i j d d2 _ h q1 ha q2)
      · subst es ew
        obtain ⟨_, a', o', q3, _, _, q4⟩ := r.sl j _ _ q1 q2
        cases q3
        exact q4
  · obtain ⟨d4, q⟩ := g q1
    exact r.own j d4 b q q2
  · obtain ⟨d4, p1⟩ := g q1
    obtain ⟨d5, p2⟩ := g q2
    exact r.inj j k d4 d5 b p1 p2 q3 q4
/-- a slot is filled anew -/
theorem SR.asgG (r : SR K fa B F e σ H) {i : Nat} {s : Sl} {v : V} (hi : ∀ p ∈ B.ios, (σ.set i (some v))[p.1]? = some (some (.ref p.2))) (h : SlR K fa F H s (some v)) (ho : ∀ d, s = .ow d → ∃ a, v = .ref a ∧ (B.H a = none ∨ a ∈ B.IO) ∧ ∀ (j : Nat) (d' : D), e[j]? = some (.ow d') → σ[j]? ≠ some (some (.ref a))) :
    SR K fa B F (e.set i s) (σ.set i (some v)) H := by
  refine ⟨r.sub, r.mono, r.fresh, r.keep, r.io, hi, by rw [List.length_set, List.length_set]; exact r.len, fun j s' w q1 q2 => ?_, fun j d a q1 q2 => ?_, fun j k d d' a q1 q2 q3 q4 => ?_⟩
  · by_cases hj : i = j
    · subst hj
      by_cases hl : i < e.length
      · rw [List.getElem?_set_self hl] at q1
        rw [List.getElem?_set_self (by rw [← r.len]; exact hl)] at q2
        cases q1
        cases q2
        exact h
      · rw [List.getElem?_eq_none (by simpa using hl)] at q1
        cases q1
    · rw [List.getElem?_set_ne hj] at q1 q2
      exact r.sl j s' w q1 q2
  · by_cases hj : i = j
    · subst hj
      by_cases hl : i < e.length
      · rw [List.getElem?_set_self hl] at q1
        rw [List.getElem?_set_self (by rw [← r.len]; exact hl)] at q2
        cases q1
        cases q2
        obtain ⟨a', e1, h1, _⟩ := ho d rfl
        cases e1
        exact h1
      · rw [List.getElem?_eq_none (by simpa using hl)] at q1
        cases q1
    · rw [List.getElem?_set_ne hj] at q1 q2
      exact r.own j d a q1 q2
  · by_cases hj : i = j
    · by_cases hk : i = k
      · exact hj.symm.trans hk
      · subst hj
        rw [List.getElem?_set_ne hk] at q2 q4
        by_cases hl : i < e.length
        · rw [List.getElem?_set_self hl] at q1
          rw [List.getElem?_set_self (by rw [← r.len]; exact hl)] at q3
          cases q1
          cases q3
          obtain ⟨a', e1, _, h2⟩ := ho d rfl
          cases e1
          exact absurd q4 (h2 k d' q2)
        · rw [List.getElem?_eq_none (by simpa using hl)] at q1
          cases q1
    · rw [List.getElem?_set_ne hj] at q1 q3
      by_cases hk : i = k
      · subst hk
        by_cases hl : i < e.length
        · rw [List.getElem?_set_self hl] at q2
          rw [List.getElem?_set_self (by rw [← r.len]; exact hl)] at q4
          cases q2
          cases q4
          obtain ⟨a', e1, _, h2⟩ := ho d' rfl
          cases e1
          exact absurd q3 (h2 j d q1)
        · rw [List.getElem?_eq_none (by simpa using hl)] at q2
          cases q2
      · rw [List.getElem?_set_ne hk] at q2 q4
        exact r.inj j k d d' a q1 q2 q3 q4
/-- a name is stored -/
theorem SR.asg (r : SR K fa B F e σ H) {i : Nat} {s : Sl} {v : V} (hi : ∀ p ∈ B.ios, p.1 ≠ i) (h : SlR K fa F H s (some v)) (ho : ∀ d, s = .ow d → ∃ a, v = .ref a ∧ (B.H a = none ∨ a ∈ B.IO) ∧ ∀ (j : Nat) (d' : D), e[j]? = some (.ow d') → σ[j]? ≠ some (some (.ref a))) :
    SR K fa B F (e.set i s) (σ.set i (some v)) H :=
  r.asgG (fun p hp => by rw [List.getElem?_set_ne (Ne.symm (hi p hp))]; exact r.ios p hp) h ho
theorem SR.asgSh (r : SR K fa B F e σ H) {i : Nat} {d : D} {v : V} (hi : ∀ p ∈ B.ios, p.1 ≠ i) (h : DR K fa F d v) : SR K fa B F (e.set i (.sh d)) (σ.set i (some v)) H :=
  r.asg hi ⟨v, rfl, h⟩ fun _ q => nomatch q
/-- x = value -/
theorem SR.asgF (r : SR K fa B F e σ H) {i : Nat} {d : D} {fr : Bool} {v : V} (hi : ∀ p ∈ B.ios, p.1 ≠ i) (h : FV K fa B F e σ H d fr v) : ∃ F', Le F F' ∧ SR K fa B F' (e.set i (mkSl d fr)) (σ.set i (some v)) H := by
  unfold mkSl
  by_cases c : (fr && d.mutb) = true
  · rw [if_pos c]
    obtain ⟨c1, c2⟩ := Bool.and_eq_true_iff.mp c
    subst c1
    obtain ⟨p, o, e1, h1, h2, h3, h4, h5⟩ := h.new
    subst e1
    exact ⟨F, Le.refl F, r.asg hi ⟨c2, p, o, rfl, h1, h2, h3⟩ fun d' q => ⟨p, rfl, h4, h5⟩⟩
  · rw [if_neg c]
    obtain ⟨F', l, r', q⟩ := r.freeze h
    exact ⟨F', l, r'.asgSh hi q⟩
/-- the addresses that the slots hold alone -/
def owns (e : Ev) (σ : St) : List Addr := (List.range e.length).filterMap fun (i : Nat) => match e[i]?, σ[i]? with
  | some (Sl.ow _), some (some (V.ref a)) => some a
  | _, _ => none
theorem mem_owns {a : Addr} : a ∈ owns e σ ↔ ∃ (i : Nat) (d : D), e[i]? = some (.ow d) ∧ σ[i]? = some (some (.ref a)) := by
  unfold owns
  rw [List.mem_filterMap]
  constructor
  · rintro ⟨i, _, h⟩
    split at h
    · rename_i d a' q1 q2
      cases h
      exact ⟨i, d, q1, q2⟩
    · cases h
  · rintro ⟨i, d, q1, q2⟩
    refine ⟨i, List.mem_range.mpr (List.getElem?_eq_some_iff.mp q1).1, ?_⟩
    rw [q1, q2]
/-- a new beginning, here -/
def here (F H : Hp) (e : Ev) (σ : St) : Bs := ⟨F, H, owns e σ, []⟩
theorem SR.rebase (r : SR K fa B F e σ H) : SR K fa (here F H e σ) F e σ H := by
  refine ⟨r.sub, Le.refl F, fun a o q1 q2 => ?_, fun _ _ q _ => q, fun a h => ?_, fun _ h => (nomatch h), r.len, r.sl, fun i d a q1 q2 => .inr (mem_owns.mpr ⟨i, d, q1, q2⟩), r.inj⟩
  · have q2' : F a = none := q2
    rw [q2'] at q1
    cases q1
  · obtain ⟨i, d, q1, q2⟩ := mem_owns.mp h
    obtain ⟨a', o, h1, h2, _⟩ := r.ow q1
    rw [q2] at h1
    cases h1
    exact ⟨o, h2⟩
/-- and back -/
theorem SR.back (r : SR K fa B F e σ H) {e' : Ev} {σ' : St} (r' : SR K fa (here F H e σ) F' e' σ' H') (hs : ∀ p ∈ B.ios, σ'[p.1]? = some (some (.ref p.2))) : SR K fa B F' e' σ' H' := by
  have up : ∀ a, (here F H e σ).H a = none ∨ a ∈ (here F H e σ).IO → B.H a = none ∨ a ∈ B.IO := fun a z => by
    rcases z with z | z
    · exact .inl (r.none_of z).2.1
    · obtain ⟨i, d, q1, q2⟩ := mem_owns.mp z
      exact r.own i d a q1 q2
  have kp : ∀ a o, B.H a = some o → a ∉ B.IO → H a = some o ∧ a ∉ (here F H e σ).IO := fun a o q z => ⟨r.keep a o q z, fun y => by
    rcases up a (.inr y) with y | y
    · rw [y] at q
      cases q
    · exact z y⟩
  refine ⟨r'.sub, r.mono.trans r'.mono, fun a o q1 q2 => ?_, fun a o q z => ?_, fun a z => ?_, hs, r'.len, r'.sl, fun i d a q1 q2 => up a (r'.own i d a q1 q2), r'.inj⟩
  · cases q : F a with
    | none => exact up a (r'.fresh a o q1 q)
    | some o' => exact r.fresh a o' q q2
  · obtain ⟨h1, h2⟩ := kp a o q z
    exact r'.keep a o h1 h2
  · obtain ⟨o, q⟩ := r.io a z
    by_cases hm : a ∈ (here F H e σ).IO
    · exact r'.io a hm
    · exact ⟨o, r'.keep a o q hm⟩
theorem FV.back {e' : Ev} {σ' : St} {d : D} {fr : Bool} {v : V} (r : SR K fa B F e σ H) (h : FV K fa (here F H e σ) F' e' σ' H' d fr v) : FV K fa B F' e' σ' H' d fr v := by
  cases fr with
  | false => exact FV.sh h.dr
  | true =>
    obtain ⟨p, o, e1, h1, h2, h3, h4, h5⟩ := h.new
    subst e1
    refine FV.mk h1 h2 h3 ?_ h5
    rcases h4 with z | z
    · exact .inl (r.none_of z).2.1
    · obtain ⟨i, d, q1, q2⟩ := mem_owns.mp z
      exact r.own i d p q1 q2
end
/-! ### dicts -/
section
variable {K : PySem.W.Frag} {fa : Nat → Addr} {F : Hp}
theorem key_of' {d : D} (h : d.isKey = true) : ∃ k, keyD d = some k := by
  cases d <;> first
    | exact ⟨_, rfl⟩
    | cases h
theorem key_flat {d : D} (h : d.isKey = true) : d.flat = true := by
  cases d <;> first
    | rfl
    | cases h
theorem keyD_kV {d : D} {v : V} {k : Key} (h : keyD d = some k) (r : DR K fa F d v) : v = kV k := by
  cases d <;> first
    | (simp only [DR] at r
       cases h
       exact r)
    | cases h
theorem keq_key {c d : D} {kc kd : Key} (h1 : keyD c = some kc) (h2 : keyD d = some kd) : keq c d = decide (kc = kd) := by
  cases c <;> first
    | (cases h1; done)
    | skip
  all_goals cases d <;> first
    | (cases h2; done)
    | skip
  all_goals
    cases h1
    cases h2
  · simp [keq]
  · simp [keq]
  · simp [keq]
  · simp [keq]
theorem keysD_cons {d : D} {ds : List D} {l : List Key} (h : keysD (d :: ds) = some l) : ∃ k r, keyD d = some k ∧ keysD ds = some r ∧ l = k :: r := by
  unfold keysD at h
  split at h
  · rename_i k ks h1 h2
    cases h
    exact ⟨k, ks, h1, h2, rfl⟩
  · cases h
theorem keysD_app : ∀ {ds : List D} {l : List Key} {d : D} {k : Key}, keysD ds = some l → keyD d = some k → keysD (ds ++ [d]) = some (l ++ [k])
  | [], l, d, k, h, h2 => by
    cases h
    show (match keyD d, keysD [] with
      | some k, some ks => some (k :: ks)
      | _, _ => none) = _
    rw [h2]
    rfl
  | c :: ds, l, d, k, h, h2 => by
    obtain ⟨kc, r, e1, e2, e3⟩ := keysD_cons h
    subst e3
    show (match keyD c, keysD (ds ++ [d]) with
      | some k, some ks => some (k :: ks)
      | _, _ => none) = _
    rw [e1, keysD_app e2 h2]
    rfl
theorem keys_len : ∀ {ds : List D} {l : List Key}, keysD ds = some l → ds.length = l.length
  | [], l, h => by
    cases h
    rfl
  | c :: ds, l, h => by
    obtain ⟨kc, r, e1, e2, e3⟩ := keysD_cons h
    subst e3
    rw [List.length_cons, List.length_cons, keys_len e2]
theorem any_key : ∀ {ks : List D} {l : List Key} {d : D} {kd : Key}, keysD ks = some l → keyD d = some kd → (ks.any fun c => keq c d) = l.any fun c => decide (c = kd)
  | [], l, d, kd, h, _ => by
    cases h
    rfl
  | c :: ks, l, d, kd, h, h2 => by
    obtain ⟨kc, r, e1, e2, e3⟩ := keysD_cons h
    subst e3
    rw [List.any_cons, List.any_cons, any_key e2 h2, keq_key e1 h2]
theorem any_kvs {ks : List D} {kvs : List (Key × V)} {d : D} {kd : Key} (h : keysD ks = some (kvs.map (·.1))) (h2 : keyD d = some kd) : (ks.any fun c => keq c d) = (kvs.any fun kv => decide (kv.1 = kd)) := by
  rw [any_key h h2, List.any_map]
  rfl
theorem look_key : ∀ {ks ds : List D} {kvs : List (Key × V)} {d r : D} {kd : Key}, keysD ks = some (kvs.map (·.1)) → DRs K fa F ds (kvs.map (·.2)) → keyD d = some kd → lookD ks ds d = some r → ∃ v, valV kvs kd = some v ∧ DR K fa F r v
  | [], ds, kvs, d, r, kd, h, h2, h3, h4 => by cases h4
  | c :: ks, [], kvs, d, r, kd, h, h2, h3, h4 => by cases h4
  | c :: ks, w :: ds, kvs, d, r, kd, h, h2, h3, h4 => by
    obtain ⟨kc, l, e1, e2, e3⟩ := keysD_cons h
    cases kvs with
    | nil => cases e3
    | cons kv kvs =>
      simp only [List.map_cons, List.cons.injEq] at e3
      obtain ⟨e3, e4⟩ := e3
      simp only [DRs, List.map_cons] at h2
      obtain ⟨v, rr, g1, g2, g3⟩ := h2
      cases g1
      unfold lookD at h4
      rw [keq_key e1 h3] at h4
      by_cases hk : kc = kd
      · rw [decide_eq_true hk, if_pos rfl] at h4
        cases h4
        exact ⟨_, valV_pos (e3.trans hk), g2⟩
      · rw [decide_eq_false hk, if_neg Bool.false_ne_true] at h4
        obtain ⟨v, q1, q2⟩ := look_key (by rw [e4]; exact e2) g3 h3 h4
        exact ⟨v, (valV_neg (by rw [e3]; exact hk)).trans q1, q2⟩
theorem put_map : ∀ {ks ds : List D} {kvs : List (Key × V)} {d z : D} {kd : Key} {v : V}, keysD ks = some (kvs.map (·.1)) → DRs K fa F ds (kvs.map (·.2)) → keyD d = some kd → DR K fa F z v →
    DRs K fa F ((ks.zip ds).map fun p => if keq p.1 d = true then z else p.2) ((kvs.map fun kv => if kv.1 = kd then (kv.1, v) else kv).map (·.2))
  | [], ds, kvs, d, z, kd, v, h, h2, h3, h4 => by
    cases kvs with
    | nil => simp [DRs]
    | cons kv kvs => cases h
  | c :: ks, [], kvs, d, z, kd, v, h, h2, h3, h4 => by
    have := DRs.length h2
    have k2 := keys_len h
    simp at this k2
    omega
  | c :: ks, w :: ds, kvs, d, z, kd, v, h, h2, h3, h4 => by
    obtain ⟨kc, l, e1, e2, e3⟩ := keysD_cons h
    cases kvs with
    | nil => cases e3
    | cons kv kvs =>
      simp only [List.map_cons, List.cons.injEq] at e3
      obtain ⟨e3, e4⟩ := e3
      simp only [DRs, List.map_cons] at h2
      obtain ⟨u, rr, g1, g2, g3⟩ := h2
      cases g1
      have ih := put_map (z := z) (v := v) (by rw [e4]; exact e2) g3 h3 h4
      rw [List.zip_cons_cons, List.map_cons, List.map_cons, List.map_cons]
      refine DRs.cons ?_ ih
      rw [keq_key e1 h3]
      by_cases hk : kc = kd
      · rw [decide_eq_true hk, if_pos rfl, if_pos (e3.trans hk)]
        exact h4
      · rw [decide_eq_false hk, if_neg Bool.false_ne_true, if_neg (by rw [e3]; exact hk)]
        exact g2
theorem put_key {ks ds : List D} {kvs : List (Key × V)} {d z : D} {kd : Key} {v : V} (h : keysD ks = some (kvs.map (·.1))) (h2 : DRs K fa F ds (kvs.map (·.2))) (h3 : keyD d = some kd) (h4 : DR K fa F z v) :
    keysD (putD ks ds d z).1 = some ((putK kvs kd v).map (·.1)) ∧ DRs K fa F (putD ks ds d z).2 ((putK kvs kd v).map (·.2)) := by
  have ha := any_kvs h h3
  unfold putD putK
  by_cases hk : (kvs.any fun kv => decide (kv.1 = kd)) = true
  · rw [hk] at ha
    rw [if_pos ha, if_pos hk]
    refine ⟨?_, put_map h h2 h3 h4⟩
    rw [h, List.map_map]
    congr 1
    refine List.map_congr_left fun kv _ => ?_
    show kv.1 = (if kv.1 = kd then (kv.1, v) else kv).1
    split <;> rfl
  · have hk' : (kvs.any fun kv => decide (kv.1 = kd)) = false := Bool.eq_false_iff.mpr hk
    rw [hk'] at ha
    rw [if_neg (by rw [ha]; exact Bool.false_ne_true), if_neg hk, List.map_append, List.map_append]
    exact ⟨keysD_app h h3, DRs.append h2 (DRs.cons h4 DRs.nil)⟩
theorem keys_DR : ∀ {ks : List D} {l : List Key}, keysD ks = some l → DRs K fa F ks (l.map kV)
  | [], l, h => by
    cases h
    simp [DRs]
  | c :: ks, l, h => by
    obtain ⟨kc, r, e1, e2, e3⟩ := keysD_cons h
    subst e3
    rw [List.map_cons]
    refine DRs.cons ?_ (keys_DR e2)
    cases c <;> first
      | (cases e1; done)
      | (cases e1
         simp only [DR]
         rfl)
end
end EV
/-! Operations on data keep what the model does. -/
namespace EV
open PySem L2
section
variable {K : PySem.W.Frag} {fa : Nat → Addr} {B : Bs} {F F' H H' : Hp} {e : Ev} {σ : L2.St}
/-- what follows a value -/
def Fin (K : PySem.W.Frag) (fa : Nat → Addr) (B : Bs) (F : Hp) (e : Ev) (σ : L2.St) (d : D) (fr : Bool) (Q : VK) : Prop :=
  ∀ F' H' v, Le F F' → SR K fa B F' e σ H' → FV K fa B F' e σ H' d fr v → Q v H'
theorem Fin.flat {d : D} {v : V} {Q : VK} (r : SR K fa B F e σ H) (h : Fin K fa B F e σ d false Q) (hv : DR K fa F d v) : Q v H := h F H v (Le.refl F) r (FV.sh hv)
theorem Fin.new {d : D} {Q : VK} (r : SR K fa B F e σ H) (h : Fin K fa B F e σ d true Q) {p : Addr} {o : HO} (hp : H p = none) (ho : OR K fa F d o) : Q (.ref p) (upd H p o) :=
  h F _ _ (Le.refl F) (r.new hp) (r.newV hp ho)
theorem Fin.newT {d : D} {Q : VK} (r : SR K fa B F e σ H) (h : Fin K fa B F e σ d false Q) {p : Addr} {o : HO} (hp : H p = none) (ho : OR K fa F d o) : Q (.ref p) (upd H p o) := by
  obtain ⟨F', l, r', q⟩ := (r.new (o := o) hp).freeze (r.newV hp ho)
  exact h F' _ _ l r' (FV.sh q)
end
/-! ### == -/
section
variable {K : PySem.W.Frag} {fa : Nat → Addr} {F H : Hp}
mutual
theorem DR.dp (l : Le F H) : ∀ (d : D) (p : PyData) (v : V), d.py = some p → DR K fa F d v → Dp K H v p
  | .non, p, v, h, q => by
    simp only [D.py, Option.some.injEq] at h
    simp only [DR] at q
    subst h q
    exact .non
  | .bl b, p, v, h, q => by
    simp only [D.py, Option.some.injEq] at h
    simp only [DR] at q
    subst h q
    exact .bl b
  | .int b, p, v, h, q => by
    simp only [D.py, Option.some.injEq] at h
    simp only [DR] at q
    subst h q
    exact .int b
  | .str b, p, v, h, q => by
    simp only [D.py, Option.some.injEq] at h
    simp only [DR] at q
    subst h q
    exact .str _
  | .fn _, p, v, h, q => by simp [D.py] at h
  | .scr _, p, v, h, q => by simp [D.py] at h
  | .dct _ _, p, v, h, q => by simp [D.py] at h
  | .lst ds, p, v, h, q => by
    simp only [D.py] at h
    simp only [DR] at q
    obtain ⟨a, vs, e1, h1, h2⟩ := q
    cases z : D.pys ds with
    | none =>
      rw [z] at h
      cases h
    | some ps =>
      rw [z] at h
      cases h
      subst e1
      exact .lst (SqL.of (l _ _ h1)) (DRs.dp l ds ps vs z h2)
  | .tup ds, p, v, h, q => by
    simp only [D.py] at h
    simp only [DR] at q
    obtain ⟨a, vs, e1, h1, h2⟩ := q
    cases z : D.pys ds with
    | none =>
      rw [z] at h
      cases h
    | some ps =>
      rw [z] at h
      cases h
      subst e1
      exact .tup (SqT.le l h1) (DRs.dp l ds ps vs z h2)
theorem DRs.dp (l : Le F H) : ∀ (ds : List D) (ps : List PyData) (vs : List V), D.pys ds = some ps → DRs K fa F ds vs → DpAll K H vs ps
  | [], ps, vs, h, q => by
    simp only [D.pys, Option.some.injEq] at h
    simp only [DRs] at q
    subst h q
    exact .nil
  | d :: ds, ps, vs, h, q => by
    simp only [DRs] at q
    obtain ⟨v, r, e1, h1, h2⟩ := q
    subst e1
    simp only [D.pys] at h
    cases z1 : D.py d with
    | none =>
      rw [z1] at h
      cases h
    | some p =>
      cases z2 : D.pys ds with
      | none =>
        rw [z1, z2] at h
        cases h
      | some ps' =>
        rw [z1, z2] at h
        cases h
        exact .cons (DR.dp l d p v z1 h1) (DRs.dp l ds ps' r z2 h2)
end
theorem CR.dp (l : Le F H) {d : D} {p : PyData} {v : V} (h : d.py = some p) (q : CR K fa F H d v) : Dp K H v p := by
  cases d <;> simp only [CR] at q
  case lst ds =>
    simp only [D.py] at h
    obtain ⟨a, vs, e1, h1, h2⟩ := q
    cases z : D.pys ds with
    | none =>
      rw [z] at h
      cases h
    | some ps =>
      rw [z] at h
      cases h
      subst e1
      exact .lst (SqL.of h1) (DRs.dp l ds ps vs z h2)
  case dct => simp [D.py] at h
  all_goals exact DR.dp l _ _ _ h q
/-- a list that is told as ints, as texts -/
theorem DRs.ints : ∀ {ds : List D} {vs : List V} {ns : List Int}, ints? ds = some ns → DRs K fa F ds vs → vs = ns.map V.int ∧ ds = ns.map D.int
  | [], vs, ns, h, q => by
    simp only [ints?, Option.some.injEq] at h
    simp only [DRs] at q
    subst h q
    exact ⟨rfl, rfl⟩
  | d :: ds, vs, ns, h, q => by
    simp only [DRs] at q
    obtain ⟨v, r, e1, h1, h2⟩ := q
    subst e1
    cases d <;> simp only [ints?] at h <;> try (cases h)
    rename_i i
    cases z : ints? ds with
    | none =>
      rw [z] at h
      cases h
    | some ms =>
      rw [z] at h
      cases h
      obtain ⟨k1, k2⟩ := DRs.ints z h2
      simp only [DR] at h1
      rw [h1, k1, k2]
      exact ⟨rfl, rfl⟩
theorem DRs.ofInts : ∀ ns : List Int, DRs K fa F (ns.map D.int) (ns.map V.int)
  | [] => DRs.nil
  | n :: ns => DRs.cons (by simp only [DR]) (DRs.ofInts ns)
theorem DRs.strs : ∀ {ds : List D} {vs : List V} {zs : List (List Nat)}, strs? ds = some zs → DRs K fa F ds vs → vs = (zs.map fun z => (⟨z.toArray⟩ : Str)).map V.str
  | [], vs, ns, h, q => by
    simp only [strs?, Option.some.injEq] at h
    simp only [DRs] at q
    subst h q
    rfl
  | d :: ds, vs, ns, h, q => by
    simp only [DRs] at q
    obtain ⟨v, r, e1, h1, h2⟩ := q
    subst e1
    cases d <;> simp only [strs?] at h <;> try (cases h)
    rename_i i
    cases z : strs? ds with
    | none =>
      rw [z] at h
      cases h
    | some ms =>
      rw [z] at h
      cases h
      have k1 := DRs.strs z h2
      simp only [DR] at h1
      rw [h1, k1]
      rfl
end
theorem str_eq {a b : List Nat} : decide ((⟨a.toArray⟩ : Str) = ⟨b.toArray⟩) = decide (a = b) := by
  rw [Bool.eq_iff_iff]
  simp
/-! ### the operators -/
section
variable {X : Cx} {fa : Nat → Addr} {K0 : PySem.W.Frag}
/-- a two-place operation told of data -/
def rTwo (K : PySem.W.Frag) (fa : Nat → Addr) (g : D → D → Option (D × Bool)) : R2 := fun x y H Q => ∃ (B : Bs) (F : Hp) (e : Ev) (σ : L2.St) (d d' r : D) (fr : Bool),
  SR K fa B F e σ H ∧ CR K fa F H d x ∧ CR K fa F H d' y ∧ g d d' = some (r, fr) ∧ Fin K fa B F e σ r fr Q
theorem some_pair {a b : D} {f g : Bool} (h : some (a, f) = some (b, g)) : a = b ∧ f = g := by
  cases h
  exact ⟨rfl, rfl⟩
theorem op_rep_str (x : Str) (k : Int) {pins : List (Addr × Obj)} {s : Shared} {σ : L2.St} {H : Hp} {t u : Tok} {Q : VK} (I : Inv X pins σ H s) (h1 : -(2 ^ 63) ≤ k) (h2 : k < 2 ^ 63) (hz : x.length * k.toNat ≤ sizeLine)
    (q : Q (.str ⟨(List.replicate k.toNat x.cps.toList).flatten.toArray⟩) H) : wpAny (model X.prog X.w) X.A (binaryOp .Mult (.str x t) (.int k u)) (EP X pins σ Q) X.xe s := by
  refine PySem.P.mul_str ?_ (fun a b => ?_) (fun a b => ?_) ?_
  · rw [decide_eq_false (by omega), decide_eq_false (by omega)] <;> rfl
  · have hk : 0 < k := by omega
    have hx : 0 < x.length := by
      cases q2 : x.length with
      | zero =>
        rw [q2] at b
        simp at b
      | succ n => exact Nat.succ_pos n
    have hz' : (x.length : Int) * k ≤ 16777216 := by
      have z1 : ((x.length * k.toNat : Nat) : Int) ≤ 16777216 := by
        rw [sizeLine_eq] at hz
        exact Int.ofNat_le.mpr hz
      rw [Int.natCast_mul, Int.toNat_of_nonneg (by omega)] at z1
      exact z1
    have h3 : (x.length : Int) ≤ (2 ^ 63 - 1) / k := by
      rw [Int.le_ediv_iff_mul_le hk]
      omega
    omega
  · show decide (x.length * k.toNat > sizeLine) = false
    exact decide_eq_false (by omega)
  · by_cases c1 : k < 1
    · rw [if_pos c1]
      have e0 : k.toNat = 0 := by omega
      rw [e0] at q
      exact ⟨by decide, .str _, H, I.tok _, ⟨_, rfl⟩, q⟩
    · rw [if_neg c1]
      by_cases c2 : (k == 1 || x.length == 0) = true
      · rw [if_pos c2]
        refine ⟨.str x, H, I, ⟨t, rfl⟩, ?_⟩
        have e1 : (⟨(List.replicate k.toNat x.cps.toList).flatten.toArray⟩ : Str) = x := by
          apply Str.ext'
          rcases Bool.or_eq_true_iff.mp c2 with c | c
          · have : k = 1 := by simpa using c
            subst this
            simp
          · have z : x.cps.size = 0 := by simpa [Str.length] using c
            have z2 : x.cps = #[] := Array.eq_empty_of_size_eq_zero z
            rw [z2]
            simp
        rw [e1] at q
        exact q
      · rw [if_neg c2]
        have ef : ∀ (n : Nat) (acc : List Nat), (List.replicate n x.cps).foldl (· ++ ·) acc.toArray = (acc ++ (List.replicate n x.cps.toList).flatten).toArray := by
          intro n
          induction n with
          | zero => intro acc; simp
          | succ n ih =>
            intro acc
            rw [List.replicate_succ, List.foldl_cons, List.replicate_succ, List.flatten_cons]
            have e3 : acc.toArray ++ x.cps = (acc ++ x.cps.toList).toArray := by simp
            rw [e3, ih, List.append_assoc]
        have e4 := ef k.toNat []
        rw [List.nil_append] at e4
        have e5 : (List.replicate k.toNat x.cps).foldl (· ++ ·) #[] = (List.replicate k.toNat x.cps.toList).flatten.toArray := e4
        rw [e5]
        refine ⟨?_, .str _, H, I.tok _, ⟨_, rfl⟩, q⟩
        show (List.replicate k.toNat x.cps.toList).flatten.toArray.size ≤ sizeLine
        rw [List.size_toArray, PyProof.Rows.lm_len_rep_flat, Array.length_toList, Nat.mul_comm]
        exact hz
theorem cMul_ok {i j : Int} (h : cMul i j = true) : CMul i j := by
  rcases Bool.or_eq_true_iff.mp h with h | h
  · have h := Nat.le_of_ble_eq_true h
    exact .inl ⟨by omega, by omega⟩
  · have h := Nat.le_of_ble_eq_true h
    exact .inr ⟨by omega, by omega⟩
theorem cPow_ok {i j : Int} (h : cPow i j = true) : CPow i j := by
  obtain ⟨h, h3⟩ := Bool.and_eq_true_iff.mp h
  obtain ⟨h1, h2⟩ := Bool.and_eq_true_iff.mp h
  have h1 := of_decide_eq_true h1
  have h2 := Nat.le_of_ble_eq_true h2
  have h3 := Nat.le_of_ble_eq_true h3
  exact ⟨h1, by omega, by omega⟩
theorem op_bin (op : Operator) : OpR X (binaryOp op) (rTwo X.K fa (binD op)) := by
  intro pins s σ H x y v u Q I rx ry h
  obtain ⟨B, F, e, τ, d, d', r, fr, hr, cx, cy, hg, q⟩ := h
  unfold binD at hg
  split at hg
  -- ints
  · obtain ⟨e1, e2⟩ := some_pair hg
    simp only [CR, DR] at cx cy
    subst e1 e2
    exact op_add pins s σ H x y v u Q I rx ry ⟨_, _, cx, cy, q.flat hr (by simp only [DR])⟩
  · obtain ⟨e1, e2⟩ := some_pair hg
    simp only [CR, DR] at cx cy
    subst e1 e2
    exact op_sub pins s σ H x y v u Q I rx ry ⟨_, _, cx, cy, q.flat hr (by simp only [DR])⟩
  · split at hg
    · rename_i hc
      obtain ⟨e1, e2⟩ := some_pair hg
      simp only [CR, DR] at cx cy
      subst e1 e2
      refine op_mul pins s σ H x y v u Q I rx ry ⟨_, _, cx, cy, ?_, q.flat hr (by simp only [DR])⟩
      exact cMul_ok hc
    · cases hg
  · split at hg
    · rename_i hc
      obtain ⟨e1, e2⟩ := some_pair hg
      simp only [CR, DR] at cx cy
      subst e1 e2
      refine op_fdiv pins s σ H x y v u Q I rx ry ⟨_, _, cx, cy, ?_, q.flat hr (by simp only [DR])⟩
      obtain ⟨c1, c2⟩ := Bool.and_eq_true_iff.mp hc
      have c1 := of_decide_eq_true c1
      have c2 := Nat.le_of_ble_eq_true c2
      exact ⟨c1, by omega⟩
    · cases hg
  · split at hg
    · rename_i hc
      obtain ⟨e1, e2⟩ := some_pair hg
      simp only [CR, DR] at cx cy
      subst e1 e2
      exact op_mod pins s σ H x y v u Q I rx ry ⟨_, _, cx, cy, of_decide_eq_true hc, q.flat hr (by simp only [DR])⟩
    · cases hg
  · split at hg
    · rename_i hc
      obtain ⟨e1, e2⟩ := some_pair hg
      simp only [CR, DR] at cx cy
      subst e1 e2
      refine op_pow pins s σ H x y v u Q I rx ry ⟨_, _, cx, cy, ?_, q.flat hr (by simp only [DR])⟩
      exact cPow_ok hc
    · cases hg
  · split at hg
    · rename_i hc
      obtain ⟨e1, e2⟩ := some_pair hg
      simp only [CR, DR] at cx cy
      subst e1 e2
      refine op_shl pins s σ H x y v u Q I rx ry ⟨_, _, cx, cy, ?_, q.flat hr (by simp only [DR])⟩
      exact cPow_ok hc
    · cases hg
  · split at hg
    · rename_i hc
      obtain ⟨e1, e2⟩ := some_pair hg
      simp only [CR, DR] at cx cy
      subst e1 e2
      exact op_shr pins s σ H x y v u Q I rx ry ⟨_, _, cx, cy, of_decide_eq_true hc, q.flat hr (by simp only [DR])⟩
    · cases hg
  · obtain ⟨e1, e2⟩ := some_pair hg
    simp only [CR, DR] at cx cy
    subst e1 e2
    exact op_and pins s σ H x y v u Q I rx ry ⟨_, _, cx, cy, q.flat hr (by simp only [DR])⟩
  · obtain ⟨e1, e2⟩ := some_pair hg
    simp only [CR, DR] at cx cy
    subst e1 e2
    exact op_or pins s σ H x y v u Q I rx ry ⟨_, _, cx, cy, q.flat hr (by simp only [DR])⟩
  · obtain ⟨e1, e2⟩ := some_pair hg
    simp only [CR, DR] at cx cy
    subst e1 e2
    exact op_xor pins s σ H x y v u Q I rx ry ⟨_, _, cx, cy, q.flat hr (by simp only [DR])⟩
  -- texts
  · rename_i a b
    split at hg
    · rename_i hc
      obtain ⟨e1, e2⟩ := some_pair hg
      simp only [CR, DR] at cx cy
      subst e1 e2
      refine op_add_str pins s σ H x y v u Q I rx ry ⟨_, _, cx, cy, ?_, q.flat hr ?_⟩
      · have z : a.length + b.length ≤ sizeLine := of_decide_eq_true hc
        simpa [Str.length] using z
      · simp only [DR]
        have z : (⟨a.toArray⟩ : Str) ++ (⟨b.toArray⟩ : Str) = ⟨(a ++ b).toArray⟩ := by
          show (⟨a.toArray ++ b.toArray⟩ : Str) = _
          simp
        rw [z]
    · cases hg
  -- lists
  · rename_i a b
    split at hg
    · rename_i hc
      obtain ⟨e1, e2⟩ := some_pair hg
      simp only [CR] at cx cy
      subst e1 e2
      obtain ⟨p, vs, ex, hp, rx'⟩ := cx
      obtain ⟨p', vs', ey, hp', ry'⟩ := cy
      refine op_cat pins s σ H x y v u Q I rx ry ⟨p, p', vs, vs', ex, ey, hp, hp', ?_, fun b hb => q.new hr hb ?_⟩
      · have z : a.length + b.length ≤ sizeLine := of_decide_eq_true hc
        rw [DRs.length rx', DRs.length ry'] at z
        exact z
      · simp only [OR]
        exact ⟨_, rfl, DRs.append rx' ry'⟩
    · cases hg
  -- tuples
  · rename_i a b
    split at hg
    · rename_i hc
      obtain ⟨e1, e2⟩ := some_pair hg
      have cx0 : DR X.K fa F (.tup a) x := by simpa only [CR] using cx
      have cy0 : DR X.K fa F (.tup b) y := by simpa only [CR] using cy
      subst e1 e2
      have cx1 := cx0
      have cy1 := cy0
      simp only [DR] at cx1 cy1
      obtain ⟨p, vs, ex, hp, rx'⟩ := cx1
      obtain ⟨p', vs', ey, hp', ry'⟩ := cy1
      have z : a.length + b.length ≤ sizeLine := of_decide_eq_true hc
      rw [DRs.length rx', DRs.length ry'] at z
      refine op_catA pins s σ H x y v u Q I rx ry ⟨p, p', vs, vs', ex, ey, SqT.le hr.sub hp, SqT.le hr.sub hp', z, fun h0 => ?_, fun _ h0 => ?_, fun _ _ b hb => q.newT hr hb ?_⟩
      · have ea : a = [] := List.eq_nil_of_length_eq_zero (by rw [DRs.length rx', h0]; rfl)
        subst ea
        rw [← ey]
        exact q.flat hr (by simpa using cy0)
      · have eb : b = [] := List.eq_nil_of_length_eq_zero (by rw [DRs.length ry', h0]; rfl)
        subst eb
        rw [← ex]
        exact q.flat hr (by simpa using cx0)
      · simp only [OR]
        exact ⟨_, rfl, DRs.append rx' ry'⟩
    · cases hg
  -- a list, a text so many times
  · rename_i a k
    split at hg
    · rename_i hc
      obtain ⟨e1, e2⟩ := some_pair hg
      simp only [CR, DR] at cx cy
      subst e1 e2
      simp only [Bool.and_eq_true] at hc
      obtain ⟨h0, h3⟩ := hc
      have h0 := Nat.le_of_ble_eq_true h0
      have h1 : -(2 ^ 63) ≤ k := by omega
      have h2 : k < 2 ^ 63 := by omega
      have z : a.length * k.toNat ≤ sizeLine := of_decide_eq_true h3
      obtain ⟨p, vs, ex, hp, rx'⟩ := cx
      rw [DRs.length rx'] at z
      refine op_rep pins s σ H x y v u Q I rx ry ⟨p, k, vs, ex, cy, hp, h1, h2, z, fun b hb => q.new hr hb ?_⟩
      simp only [OR]
      exact ⟨_, rfl, DRs.rep rx' k.toNat⟩
    · cases hg
  · rename_i a k
    split at hg
    · rename_i hc
      obtain ⟨e1, e2⟩ := some_pair hg
      simp only [CR, DR] at cx cy
      subst e1 e2 cx cy
      simp only [Bool.and_eq_true] at hc
      obtain ⟨h0, h3⟩ := hc
      have h0 := Nat.le_of_ble_eq_true h0
      have h1 : -(2 ^ 63) ≤ k := by omega
      have h2 : k < 2 ^ 63 := by omega
      have z : a.length * k.toNat ≤ sizeLine := of_decide_eq_true h3
      obtain ⟨t, rfl⟩ := rx
      obtain ⟨t', rfl⟩ := ry
      refine op_rep_str ⟨a.toArray⟩ k I h1 h2 ?_ (q.flat hr (by simp only [DR]))
      simpa [Str.length] using z
    · cases hg
  · cases hg
/-- a comparison -/
def rCmpD (K : PySem.W.Frag) (fa : Nat → Addr) (op : CmpOp) : R2 := rTwo K fa fun d d' => (cmpD op d d').map fun k => (.bl k, false)
theorem map_bl {o : Option Bool} {r : D} {fr : Bool} (h : (o.map fun k => ((.bl k, false) : D × Bool)) = some (r, fr)) : ∃ k, o = some k ∧ r = .bl k ∧ fr = false := by
  cases o with
  | none => cases h
  | some k =>
    cases h
    exact ⟨k, rfl, rfl, rfl⟩
theorem scal_ok {F H : Hp} {d d' : D} {x y : V} {k : Bool} (h : scalD d d' = some k) (cx : CR K0 fa F H d x) (cy : CR K0 fa F H d' y) : scal x y = true ∧ decide (x = y) = k := by
  unfold scalD at h
  split at h <;> first
    | (simp only [CR, DR] at cx cy
       subst cx cy
       cases h
       first
         | exact ⟨rfl, rfl⟩
         | exact ⟨rfl, by simp⟩
         | exact ⟨rfl, by rw [← str_eq]; simp⟩)
    | cases h
theorem op_eqX (hu : X.A.units + 65 < cLine) : OpR X (compareOp .Eq) (rCmpD X.K fa .Eq) := by
  intro pins s σ H x y v u Q I rx ry h
  obtain ⟨B, F, e, τ, d, d', r, fr, hr, cx, cy, hg, q⟩ := h
  obtain ⟨k, hk, e1, e2⟩ := map_bl hg
  subst e1 e2
  have fin : Q (.bl k) H := q.flat hr (by simp only [DR])
  have hk' : eqD d d' = some k := hk
  unfold eqD at hk'
  split at hk'
  · rename_i b hb
    cases hk'
    obtain ⟨h1, h2⟩ := scal_ok hb cx cy
    refine op_eq pins s σ H x y v u Q I rx ry ⟨h1, ?_⟩
    rw [h2]
    exact fin
  · split at hk'
    · rename_i p q' hp hq
      split at hk'
      · rename_i hc
        obtain ⟨c1, c2⟩ := Bool.and_eq_true_iff.mp hc
        cases hk'
        exact op_eqD (by omega) pins s σ H x y v u Q I rx ry ⟨p, q', CR.dp hr.sub hp cx, CR.dp hr.sub hq cy, c1, c2, fin⟩
      · cases hk'
    · cases hk'
theorem op_neX (hu : X.A.units + 65 < cLine) : OpR X (compareOp .NotEq) (rCmpD X.K fa .NotEq) := by
  intro pins s σ H x y v u Q I rx ry h
  obtain ⟨B, F, e, τ, d, d', r, fr, hr, cx, cy, hg, q⟩ := h
  obtain ⟨k, hk, e1, e2⟩ := map_bl hg
  subst e1 e2
  have fin : Q (.bl k) H := q.flat hr (by simp only [DR])
  have hk' : (eqD d d').map (!·) = some k := hk
  cases hz : eqD d d' with
  | none =>
    rw [hz] at hk'
    cases hk'
  | some k0 =>
    rw [hz] at hk'
    cases hk'
    unfold eqD at hz
    split at hz
    · rename_i b hb
      cases hz
      obtain ⟨h1, h2⟩ := scal_ok hb cx cy
      refine op_ne pins s σ H x y v u Q I rx ry ⟨h1, ?_⟩
      rw [h2]
      exact fin
    · split at hz
      · rename_i p q' hp hq
        split at hz
        · rename_i hc
          obtain ⟨c1, c2⟩ := Bool.and_eq_true_iff.mp hc
          cases hz
          exact op_neD (by omega) pins s σ H x y v u Q I rx ry ⟨p, q', CR.dp hr.sub hp cx, CR.dp hr.sub hq cy, c1, c2, fin⟩
        · cases hz
      · cases hz
theorem inList_ok {F H : Hp} {d : D} {ys : List D} {x y : V} {k : Bool} (l : Le F H) (h : inList d ys = some k) (cx : CR K0 fa F H d x) (cy : CR K0 fa F H (.lst ys) y) :
    ∃ p ps, Dp K0 H x p ∧ Dp K0 H y (.list ps) ∧ SeqAt.shaped p = true ∧ SeqAt.shaped (.list ps) = true ∧ (ps.any fun z => PyData.eqv z p) = k := by
  unfold inList at h
  split at h
  · rename_i p qs hp hq
    split at h
    · rename_i hc
      obtain ⟨c1, c2⟩ := Bool.and_eq_true_iff.mp hc
      cases h
      refine ⟨p, qs, CR.dp l hp cx, CR.dp l (d := .lst ys) ?_ cy, c1, c2, rfl⟩
      simp only [D.py, hq]
      rfl
    · cases h
  · cases h
theorem CR.of_flat {K : PySem.W.Frag} {fa : Nat → Addr} {F H : Hp} {d : D} {x : V} (h : d.flat = true) (c : CR K fa F H d x) : DR K fa F d x := by
  cases d <;> first
    | (cases h; done)
    | (simp only [CR] at c; exact c)
theorem op_inX (hu : X.A.units + 65 < cLine) : OpR X (compareOp .In) (rCmpD X.K fa .In) := by
  intro pins s σ H x y v u Q I rx ry h
  obtain ⟨B, F, e, τ, d, d', r, fr, hr, cx, cy, hg, q⟩ := h
  obtain ⟨k, hk, e1, e2⟩ := map_bl hg
  subst e1 e2
  have fin : Q (.bl k) H := q.flat hr (by simp only [DR])
  have hk' : inD d d' = some k := hk
  unfold inD at hk'
  split at hk'
  · simp only [CR, DR] at cx cy
    cases hk'
    exact op_in_sign pins s σ H x y v u Q I rx ry ⟨_, _, cx, cy, fin⟩
  · obtain ⟨p, ps, h1, h2, h3, h4, h5⟩ := inList_ok hr.sub hk' cx cy
    refine op_inD hu pins s σ H x y v u Q I rx ry ⟨p, ps, h1, h2, h3, h4, ?_⟩
    rw [h5]
    exact fin
  · unfold inDc at hk'
    split at hk'
    · rename_i ks vs _
      split at hk'
      · rename_i hkey
        cases hk'
        obtain ⟨kd, hkd⟩ := key_of' hkey
        simp only [CR] at cy
        obtain ⟨a, kvs, ey, hp, hks, _⟩ := cy
        have ex := keyD_kV hkd (CR.of_flat (key_flat hkey) cx)
        subst ex ey
        obtain rfl : u = Value.ref a := ry
        refine d_in (by omega) I (DGet.k (k := kd) hp) rx fun s3 I3 => ⟨.bl _, H, I3, rfl, ?_⟩
        rw [← valV_any, ← any_kvs hks hkd]
        exact fin
      · cases hk'
    · cases hk'
theorem op_notInX (hu : X.A.units + 65 < cLine) : OpR X (compareOp .NotIn) (rCmpD X.K fa .NotIn) := by
  intro pins s σ H x y v u Q I rx ry h
  obtain ⟨B, F, e, τ, d, d', r, fr, hr, cx, cy, hg, q⟩ := h
  obtain ⟨k, hk, e1, e2⟩ := map_bl hg
  subst e1 e2
  have fin : Q (.bl k) H := q.flat hr (by simp only [DR])
  have hk' : (inD d d').map (!·) = some k := hk
  cases hz : inD d d' with
  | none =>
    rw [hz] at hk'
    cases hk'
  | some k0 =>
    rw [hz] at hk'
    cases hk'
    unfold inD at hz
    split at hz
    · simp only [CR, DR] at cx cy
      cases hz
      exact op_notIn_sign pins s σ H x y v u Q I rx ry ⟨_, _, cx, cy, fin⟩
    · obtain ⟨p, ps, h1, h2, h3, h4, h5⟩ := inList_ok hr.sub hz cx cy
      refine op_notInD hu pins s σ H x y v u Q I rx ry ⟨p, ps, h1, h2, h3, h4, ?_⟩
      rw [h5]
      exact fin
    · unfold inDc at hz
      split at hz
      · rename_i ks vs _
        split at hz
        · rename_i hkey
          cases hz
          obtain ⟨kd, hkd⟩ := key_of' hkey
          simp only [CR] at cy
          obtain ⟨a, kvs, ey, hp, hks, _⟩ := cy
          have ex := keyD_kV hkd (CR.of_flat (key_flat hkey) cx)
          subst ex ey
          obtain rfl : u = Value.ref a := ry
          refine d_notIn (by omega) I (DGet.k (k := kd) hp) rx fun s3 I3 => ⟨.bl _, H, I3, rfl, ?_⟩
          rw [← valV_any, ← any_kvs hks hkd]
          exact fin
        · cases hz
      · cases hz
theorem is_ok {F H : Hp} {d : D} {x : V} (cx : CR K0 fa F H d x) : decide (x = .non) = d.isNon := by
  cases d <;> simp only [CR, DR] at cx <;> first
    | (subst cx; rfl)
    | (obtain ⟨a, vs, e, _⟩ := cx; subst e; rfl)
    | (obtain ⟨a, e, _⟩ := cx; subst e; rfl)
theorem op_cmp (hu : X.A.units + 65 < cLine) (op : CmpOp) : OpR X (compareOp op) (rCmpD X.K fa op) := by
  cases op
  case Eq => exact op_eqX hu
  case NotEq => exact op_neX hu
  case In => exact op_inX hu
  case NotIn => exact op_notInX hu
  case Lt =>
    intro pins s σ H x y v u Q I rx ry h
    obtain ⟨B, F, e, τ, d, d', r, fr, hr, cx, cy, hg, q⟩ := h
    obtain ⟨k, hk, e1, e2⟩ := map_bl hg
    subst e1 e2
    have fin : Q (.bl k) H := q.flat hr (by simp only [DR])
    simp only [cmpD] at hk
    split at hk
    · cases hk
      simp only [CR, DR] at cx cy
      exact op_lt pins s σ H x y v u Q I rx ry ⟨_, _, cx, cy, fin⟩
    · cases hk
  case LtE =>
    intro pins s σ H x y v u Q I rx ry h
    obtain ⟨B, F, e, τ, d, d', r, fr, hr, cx, cy, hg, q⟩ := h
    obtain ⟨k, hk, e1, e2⟩ := map_bl hg
    subst e1 e2
    have fin : Q (.bl k) H := q.flat hr (by simp only [DR])
    simp only [cmpD] at hk
    split at hk
    · cases hk
      simp only [CR, DR] at cx cy
      exact op_le pins s σ H x y v u Q I rx ry ⟨_, _, cx, cy, fin⟩
    · cases hk
  case Gt =>
    intro pins s σ H x y v u Q I rx ry h
    obtain ⟨B, F, e, τ, d, d', r, fr, hr, cx, cy, hg, q⟩ := h
    obtain ⟨k, hk, e1, e2⟩ := map_bl hg
    subst e1 e2
    have fin : Q (.bl k) H := q.flat hr (by simp only [DR])
    simp only [cmpD] at hk
    split at hk
    · cases hk
      simp only [CR, DR] at cx cy
      exact op_gt pins s σ H x y v u Q I rx ry ⟨_, _, cx, cy, fin⟩
    · cases hk
  case GtE =>
    intro pins s σ H x y v u Q I rx ry h
    obtain ⟨B, F, e, τ, d, d', r, fr, hr, cx, cy, hg, q⟩ := h
    obtain ⟨k, hk, e1, e2⟩ := map_bl hg
    subst e1 e2
    have fin : Q (.bl k) H := q.flat hr (by simp only [DR])
    simp only [cmpD] at hk
    split at hk
    · cases hk
      simp only [CR, DR] at cx cy
      exact op_ge pins s σ H x y v u Q I rx ry ⟨_, _, cx, cy, fin⟩
    · cases hk
  case Is =>
    intro pins s σ H x y v u Q I rx ry h
    obtain ⟨B, F, e, τ, d, d', r, fr, hr, cx, cy, hg, q⟩ := h
    obtain ⟨k, hk, e1, e2⟩ := map_bl hg
    subst e1 e2
    have fin : Q (.bl k) H := q.flat hr (by simp only [DR])
    simp only [cmpD] at hk
    split at hk
    · cases hk
      have cy' : y = .non := by simpa only [CR, DR] using cy
      refine op_isN pins s σ H x y v u Q I rx ry ⟨cy', ?_⟩
      rw [is_ok cx]
      exact fin
    · cases hk
  case IsNot =>
    intro pins s σ H x y v u Q I rx ry h
    obtain ⟨B, F, e, τ, d, d', r, fr, hr, cx, cy, hg, q⟩ := h
    obtain ⟨k, hk, e1, e2⟩ := map_bl hg
    subst e1 e2
    have fin : Q (.bl k) H := q.flat hr (by simp only [DR])
    simp only [cmpD] at hk
    split at hk
    · cases hk
      have cy' : y = .non := by simpa only [CR, DR] using cy
      refine op_notN pins s σ H x y v u Q I rx ry ⟨cy', ?_⟩
      rw [is_ok cx]
      exact fin
    · cases hk
/-- truth -/
theorem tru_of {F H : Hp} {d : D} {x : V} {k : Bool} (l : Le F H) (h : truD d = some k) (cx : CR K0 fa F H d x) : TruV K0 x H k := by
  cases d <;> simp only [CR, DR] at cx <;> simp only [truD] at h
  case non =>
    cases h
    subst cx
    rfl
  case bl b =>
    cases h
    subst cx
    rfl
  case int i =>
    cases h
    subst cx
    rfl
  case str s =>
    subst cx
    split at h
    · rename_i hc
      cases h
      have z : s.length ≤ sizeLine := of_decide_eq_true hc
      refine ⟨by simpa [Str.length] using z, ?_⟩
      cases s <;> simp [Str.length]
      omega
    · cases h
  case lst ds =>
    cases h
    obtain ⟨a, vs, e, hp, r⟩ := cx
    subst e
    refine .inl ⟨vs, SqL.of hp, ?_⟩
    have := DRs.length r
    cases ds <;> cases vs <;> simp_all
  case tup ds =>
    cases h
    obtain ⟨a, vs, e, hp, r⟩ := cx
    subst e
    refine .inr (.inl ⟨vs, SqT.le l hp, ?_⟩)
    have := DRs.length r
    cases ds <;> cases vs <;> simp_all
  case dct ks ds =>
    cases h
    obtain ⟨a, kvs, e, hp, r1, r2⟩ := cx
    subst e
    refine .inr (.inr ⟨kvs, hp, ?_⟩)
    cases ks with
    | nil =>
      simp only [keysD, Option.some.injEq] at r1
      cases kvs with
      | nil => rfl
      | cons a b => cases r1
    | cons c cs =>
      cases kvs with
      | nil =>
        simp only [keysD] at r1
        split at r1 <;> cases r1
      | cons a b => rfl
  all_goals cases h
/-- x[i] -/
theorem atI_DR {F : Hp} {ds : List D} {vs : List V} {i : Int} {d : D} (r : DRs K0 fa F ds vs) (h : atI ds i = some d) : ∃ v, atI vs i = some v ∧ DR K0 fa F d v := by
  unfold atI at h ⊢
  rw [← DRs.length r]
  cases z : ixN ds.length i with
  | none =>
    rw [z] at h
    cases h
  | some j =>
    rw [z] at h
    exact DRs.get r h
def rIxD (K : PySem.W.Frag) (fa : Nat → Addr) : R2 := rTwo K fa fun d d' => (ixD d d').map fun r => (r, false)
theorem map_fst {α : Type} {o : Option α} {f : α → D × Bool} {r : D} {fr : Bool} (h : o.map f = some (r, fr)) : ∃ k, o = some k ∧ f k = (r, fr) := by
  cases o with
  | none => cases h
  | some k => exact ⟨k, rfl, Option.some.inj h⟩
open PySem.Spec PyProof.Rows in
theorem ix_ok (hu : X.A.units + 1 < cLine) : IxR X (rIxD X.K fa) := by
  intro value slice pins s σ H x y v u Q I rx ry h hsl
  obtain ⟨B, F, e, τ, d, d', r, fr, hr, cx, cy, hg, q⟩ := h
  obtain ⟨k, hk, e1⟩ := map_fst hg
  cases e1
  unfold ixD at hk
  split at hk
  · simp only [CR, DR] at cx cy
    obtain ⟨p, vs, ex, hp, rx'⟩ := cx
    obtain ⟨w, h1, h2⟩ := atI_DR rx' hk
    refine ix_list value slice pins s σ H x y v u Q I rx ry ⟨p, vs, _, w, ex, cy, SqL.of hp, h1, q.flat hr h2⟩ hsl
  · simp only [CR, DR] at cx cy
    obtain ⟨p, vs, ex, hp, rx'⟩ := cx
    obtain ⟨w, h1, h2⟩ := atI_DR rx' hk
    refine ix_tup value slice pins s σ H x y v u Q I rx ry ⟨p, vs, _, w, ex, cy, SqT.le hr.sub hp, h1, q.flat hr h2⟩ hsl
  · rename_i a i
    simp only [CR, DR] at cx cy
    split at hk
    · rename_i hc
      cases z : atI a i with
      | none =>
        rw [z] at hk
        cases hk
      | some c =>
        rw [z] at hk
        cases hk
        have z2 : a.length ≤ sizeLine := of_decide_eq_true hc
        refine ix_str value slice pins s σ H x y v u Q I rx ry ⟨⟨a.toArray⟩, i, c, cx, cy, by simpa [Str.length] using z2, by simpa using z, q.flat hr (by simp only [DR])⟩ hsl
    · cases hk
  · rename_i ks vs
    split at hk
    · rename_i hkey
      obtain ⟨kd, hkd⟩ := key_of' hkey
      simp only [CR] at cx
      obtain ⟨a, kvs, ex, hp, hks, rvs⟩ := cx
      have ey := keyD_kV hkd (CR.of_flat (key_flat hkey) cy)
      obtain ⟨w, hw, dw⟩ := look_key hks rvs hkd hk
      subst ex ey
      obtain rfl : v = Value.ref a := rx
      have gg : DGet H a (kV kd) (some w) := by
        rw [← hw]
        exact DGet.k hp
      have hT := dict_typeIs I gg
      unfold subscriptTail
      refine wpAny_bind ?_
      rw [getitemInPython_of_ne hT.not_modules]
      refine wpAny_bind (wpAny_specialOf hT PySem.F.slot_dict_getitem.lookup ?_)
      have fin : wpAny (model X.prog X.w) X.A (subscripted slice false (.ref a) u) (fun r s₃ => wpAny (model X.prog X.w) X.A (letTemporaryGo value (.ref a) r >>= fun _ => pure r) (EP X pins σ Q) X.xe s₃) X.xe s := by
        rw [hsl]
        exact wpAny_operating (wpAny_mono (d_getItem hu I gg ry fun w' s3 I3 rw' => (⟨w, H, I3, rw', q.flat hr dw⟩ : EP X pins σ Q w' s3)) (fun r s₃ h₃ => wpAny_bind (wpAny_letTemporaryGo (wpAny_pure h₃))) fun _ _ x => x)
      first
        | exact wpAny_pure (wpAny_bind fin)
        | exact wpAny_bind (wpAny_pure (wpAny_bind fin))
        | exact wpAny_bind fin
    · cases hk
  · cases hk
/-- x[lo:hi] -/
def rSlD (K : PySem.W.Frag) (fa : Nat → Addr) : V → Option Int → Option Int → Hp → VK → Prop := fun x lo hi H Q => ∃ (B : Bs) (F : Hp) (e : Ev) (σ : L2.St) (d r : D) (fr : Bool),
  SR K fa B F e σ H ∧ CR K fa F H d x ∧ slD d lo hi = some (r, fr) ∧ Fin K fa B F e σ r fr Q
theorem cut_DR {F : Hp} {ds : List D} {vs : List V} (lo hi : Option Int) (r : DRs K0 fa F ds vs) : DRs K0 fa F (cutD ds lo hi) (cutV vs lo hi) := by
  unfold cutD cutV
  rw [DRs.length r]
  exact DRs.take _ (DRs.drop _ r)
theorem sl_ok : L2.SlR X (rSlD X.K fa) := by
  intro pins s σ H x v vl vu lo hi sl Q I rx hs pl pu h
  obtain ⟨B, F, e, τ, d, r, fr, hr, cx, hg, q⟩ := h
  unfold slD at hg
  split at hg
  · obtain ⟨e1, e2⟩ := some_pair hg
    subst e1 e2
    simp only [CR] at cx
    obtain ⟨p, vs, ex, hp, rx'⟩ := cx
    refine sl_list pins s σ H x v vl vu lo hi sl Q I rx hs pl pu ⟨p, vs, ex, SqL.of hp, fun b hb => q.new hr hb ?_⟩
    simp only [OR]
    exact ⟨_, rfl, cut_DR lo hi rx'⟩
  · rename_i ds
    obtain ⟨e1, e2⟩ := some_pair hg
    subst e1 e2
    have cx0 : DR X.K fa F (.tup ds) x := by simpa only [CR] using cx
    have cx1 := cx0
    simp only [DR] at cx1
    obtain ⟨p, vs, ex, hp, rx'⟩ := cx1
    refine sl_tupA pins s σ H x v vl vu lo hi sl Q I rx hs pl pu ⟨p, vs, ex, SqT.le hr.sub hp, fun hw => ?_, fun hw b hb => q.newT hr hb ?_⟩
    · rw [← ex]
      have z : cutD ds lo hi = ds := by
        unfold cutD
        rw [DRs.length rx', hw.1, hw.2, ← DRs.length rx']
        simp
      rw [z] at q
      exact q.flat hr cx0
    · simp only [OR]
      exact ⟨_, rfl, cut_DR lo hi rx'⟩
  · rename_i a
    split at hg
    · rename_i hc
      obtain ⟨e1, e2⟩ := some_pair hg
      subst e1 e2
      simp only [CR, DR] at cx
      have z2 : a.length ≤ sizeLine := of_decide_eq_true hc
      refine sl_str pins s σ H x v vl vu lo hi sl Q I rx hs pl pu ⟨⟨a.toArray⟩, cx, by simpa [Str.length] using z2, q.flat hr ?_⟩
      simp only [DR]
      unfold cutS cutD
      simp [Str.length]
    · cases hg
  · cases hg
end
end EV
/-! Built-ins and methods. -/
namespace EV
open PySem L2
section
variable (K : PySem.W.Frag) (fa : Nat → Addr)
def CRs (F H : Hp) : List D → List V → Prop
  | [], vs => vs = []
  | d :: ds, vs => ∃ v r, vs = v :: r ∧ CR K fa F H d v ∧ CRs F H ds r
end
section
variable {K : PySem.W.Frag} {fa : Nat → Addr} {F F' H H' : Hp}
theorem CRs.one {d : D} {vs : List V} (h : CRs K fa F H [d] vs) : ∃ v, vs = [v] ∧ CR K fa F H d v := by
  simp only [CRs] at h
  obtain ⟨v, r, e1, h1, h2⟩ := h
  subst e1 h2
  exact ⟨v, rfl, h1⟩
theorem CRs.two {d d' : D} {vs : List V} (h : CRs K fa F H [d, d'] vs) : ∃ v w, vs = [v, w] ∧ CR K fa F H d v ∧ CR K fa F H d' w := by
  simp only [CRs] at h
  obtain ⟨v, r, e1, h1, v', r', e2, h2, h3⟩ := h
  subst e1 e2 h3
  exact ⟨v, v', rfl, h1, h2⟩
theorem CRs.nil {vs : List V} (h : CRs K fa F H [] vs) : vs = [] := by simpa only [CRs] using h
end
def biV : Bi → Value
  | .len => .builtin "len" | .intF => .type "int" | .strF => .type "str" | .absF => .builtin "abs" | .sum => .builtin "sum" | .min1 => .builtin "min" | .max1 => .builtin "max"
  | .min2 => .builtin "min" | .max2 => .builtin "max" | .sorted => .builtin "sorted" | .listF => .type "list" | .tupleF => .type "tuple"
theorem minL_ok : ∀ (n : Int) (ns : List Int), minL (n :: ns) ∈ n :: ns ∧ ∀ y ∈ n :: ns, minL (n :: ns) ≤ y
  | n, [] => ⟨by simp [minL], fun y h => by simp [minL] at h ⊢; omega⟩
  | n, m :: ns => by
    obtain ⟨h1, h2⟩ := minL_ok m ns
    have e : minL (n :: m :: ns) = min n (minL (m :: ns)) := rfl
    rw [e]
    refine ⟨?_, fun y h => ?_⟩
    · by_cases c : n ≤ minL (m :: ns)
      · rw [Int.min_eq_left c]
        exact List.mem_cons_self
      · rw [Int.min_eq_right (by omega)]
        exact List.mem_cons_of_mem _ h1
    · rcases List.mem_cons.mp h with z | z
      · subst z
        exact Int.min_le_left _ _
      · exact Int.le_trans (Int.min_le_right _ _) (h2 y z)
theorem maxL_ok : ∀ (n : Int) (ns : List Int), maxL (n :: ns) ∈ n :: ns ∧ ∀ y ∈ n :: ns, y ≤ maxL (n :: ns)
  | n, [] => ⟨by simp [maxL], fun y h => by simp [maxL] at h ⊢; omega⟩
  | n, m :: ns => by
    obtain ⟨h1, h2⟩ := maxL_ok m ns
    have e : maxL (n :: m :: ns) = max n (maxL (m :: ns)) := rfl
    rw [e]
    refine ⟨?_, fun y h => ?_⟩
    · by_cases c : maxL (m :: ns) ≤ n
      · rw [Int.max_eq_left c]
        exact List.mem_cons_self
      · rw [Int.max_eq_right (by omega)]
        exact List.mem_cons_of_mem _ h1
    · rcases List.mem_cons.mp h with z | z
      · subst z
        exact Int.le_max_left _ _
      · exact Int.le_trans (h2 y z) (Int.le_max_right _ _)
theorem sortI_perm (ns : List Int) : (sortI ns).Perm ns := List.mergeSort_perm _ _
theorem sortI_sorted (ns : List Int) : (sortI ns).Pairwise (· ≤ ·) := by
  have h := List.pairwise_mergeSort (le := fun (a b : Int) => decide (a ≤ b)) (fun a b c h1 h2 => by simp at h1 h2 ⊢; omega) (fun a b => by simp; omega) ns
  exact h.imp fun h => by simpa using h
theorem codes_ok (i : Int) : (⟨(codesOf i).toArray⟩ : Str) = Str.ofString (toString i) := TL.ext_tl (by rw [TL.tl_ofString] <;> rfl)
section
variable {X : Cx} {fa : Nat → Addr}
def rBi (K : PySem.W.Frag) (fa : Nat → Addr) (b : Bi) : List V → Hp → VK → Prop := fun xs H Q => ∃ (B : Bs) (F : Hp) (e : Ev) (σ : L2.St) (ds : List D) (r : D) (fr : Bool),
  SR K fa B F e σ H ∧ CRs K fa F H ds xs ∧ biD b ds = some (r, fr) ∧ Fin K fa B F e σ r fr Q
theorem bi_len_dct : CallR X (.builtin "len") (fun xs H Q => ∃ a kvs, xs = [V.ref a] ∧ H a = some (.dK kvs) ∧ Q (.int (kvs.length : Nat)) H) := by
  intro pins s σ H xs us Q I rv h
  obtain ⟨a, kvs, e, hp, q⟩ := h
  subst e
  obtain ⟨u, eu, rx⟩ := vals1 rv
  subst eu
  obtain rfl : u = Value.ref a := rx
  exact d_len I (.inl hp) fun t s' I' => ⟨.int (kvs.length : Nat), H, I', ⟨t, rfl⟩, q⟩
theorem bi_ok (hc : X.calm = true) (b : Bi) : CallR X (biV b) (rBi X.K fa b) := by
  intro pins s σ H xs us Q I rv h
  obtain ⟨B, F, e, τ, ds, r, fr, hr, cx, hg, q⟩ := h
  unfold biD at hg
  split at hg
  -- len
  · split at hg
    · rename_i z hz
      obtain ⟨e1, e2⟩ := some_pair hg
      obtain ⟨v, ev, cv⟩ := cx.one
      simp only [CR, DR] at cv
      subst e1 e2 ev cv
      have z2 : z.length ≤ sizeLine := of_decide_eq_true hz
      refine call_len_str pins s σ H _ us Q I rv ⟨_, rfl, by simpa [Str.length] using z2, q.flat hr ?_⟩
      simp [DR, Str.length]
    · cases hg
  · obtain ⟨e1, e2⟩ := some_pair hg
    obtain ⟨v, ev, cv⟩ := cx.one
    simp only [CR] at cv
    obtain ⟨p, vs, ex, hp, rx⟩ := cv
    subst e1 e2 ev ex
    refine call_len_seq pins s σ H _ us Q I rv ⟨p, vs, rfl, .inl (SqL.of hp), q.flat hr ?_⟩
    simp only [DR]
    rw [DRs.length rx]
  · obtain ⟨e1, e2⟩ := some_pair hg
    obtain ⟨v, ev, cv⟩ := cx.one
    simp only [CR, DR] at cv
    obtain ⟨p, vs, ex, hp, rx⟩ := cv
    subst e1 e2 ev ex
    refine call_len_seq pins s σ H _ us Q I rv ⟨p, vs, rfl, .inr (SqT.le hr.sub hp), q.flat hr ?_⟩
    simp only [DR]
    rw [DRs.length rx]
  · obtain ⟨e1, e2⟩ := some_pair hg
    obtain ⟨v, ev, cv⟩ := cx.one
    simp only [CR] at cv
    obtain ⟨p, kvs, ex, hp, hks, rx⟩ := cv
    subst e1 e2 ev ex
    refine bi_len_dct pins s σ H _ us Q I rv ⟨p, kvs, rfl, hp, q.flat hr ?_⟩
    simp only [DR]
    rw [keys_len hks, List.length_map]
  -- int
  · obtain ⟨e1, e2⟩ := some_pair hg
    obtain ⟨v, ev, cv⟩ := cx.one
    simp only [CR, DR] at cv
    subst e1 e2 ev cv
    exact call_int1 pins s σ H _ us Q I rv (.inl ⟨_, rfl, q.flat hr (by simp only [DR])⟩)
  · split at hg
    · rename_i a hz
      obtain ⟨v, ev, cv⟩ := cx.one
      simp only [CR, DR] at cv
      subst ev cv
      cases z : PySem.intText? ⟨a.toArray⟩ with
      | none =>
        rw [z] at hg
        cases hg
      | some n =>
        rw [z] at hg
        obtain ⟨e1, e2⟩ := some_pair hg
        subst e1 e2
        have z2 : a.length ≤ 640 := of_decide_eq_true hz
        exact call_int_str pins s σ H _ us Q I rv ⟨_, n, rfl, z, by simpa [Str.length] using z2, q.flat hr (by simp only [DR])⟩
    · cases hg
  · obtain ⟨e1, e2⟩ := some_pair hg
    obtain ⟨v, ev, cv⟩ := cx.one
    simp only [CR, DR] at cv
    subst e1 e2 ev cv
    exact call_int1 pins s σ H _ us Q I rv (.inr ⟨_, rfl, q.flat hr (by simp only [DR])⟩)
  -- abs
  · obtain ⟨e1, e2⟩ := some_pair hg
    obtain ⟨v, ev, cv⟩ := cx.one
    simp only [CR, DR] at cv
    subst e1 e2 ev cv
    exact call_abs pins s σ H _ us Q I rv ⟨_, rfl, q.flat hr (by simp only [DR])⟩
  -- str
  · split at hg
    · rename_i i hz
      obtain ⟨e1, e2⟩ := some_pair hg
      obtain ⟨v, ev, cv⟩ := cx.one
      simp only [CR, DR] at cv
      subst e1 e2 ev cv
      refine call_str_int pins s σ H _ us Q I rv ⟨_, rfl, of_decide_eq_true hz, q.flat hr ?_⟩
      simp only [DR]
      rw [codes_ok]
    · cases hg
  -- sum
  · rename_i ys
    cases z : ints? ys with
    | none =>
      rw [z] at hg
      cases hg
    | some ns =>
      rw [z] at hg
      obtain ⟨e1, e2⟩ := some_pair hg
      obtain ⟨v, ev, cv⟩ := cx.one
      simp only [CR] at cv
      obtain ⟨p, vs, ex, hp, rx⟩ := cv
      obtain ⟨k1, k2⟩ := DRs.ints z rx
      subst e1 e2 ev ex k1
      exact cr_sum hc pins s σ H _ us Q I rv ⟨p, ns, rfl, SqL.of hp, q.flat hr (by simp only [DR])⟩
  -- min, max
  · split at hg
    · rename_i ys n ns z
      obtain ⟨e1, e2⟩ := some_pair hg
      obtain ⟨v, ev, cv⟩ := cx.one
      simp only [CR] at cv
      obtain ⟨p, vs, ex, hp, rx⟩ := cv
      obtain ⟨k1, k2⟩ := DRs.ints z rx
      subst e1 e2 ev ex k1
      refine cr_min hc pins s σ H _ us Q I rv ⟨p, n :: ns, rfl, SqL.of hp, Nat.succ_pos _, fun m h1 h2 => ?_⟩
      obtain ⟨g1, g2⟩ := minL_ok n ns
      have em : m = minL (n :: ns) := Int.le_antisymm (h2 _ g1) (g2 m h1)
      rw [em]
      exact q.flat hr (by simp only [DR])
    · cases hg
  · split at hg
    · rename_i ys n ns z
      obtain ⟨e1, e2⟩ := some_pair hg
      obtain ⟨v, ev, cv⟩ := cx.one
      simp only [CR] at cv
      obtain ⟨p, vs, ex, hp, rx⟩ := cv
      obtain ⟨k1, k2⟩ := DRs.ints z rx
      subst e1 e2 ev ex k1
      refine cr_max hc pins s σ H _ us Q I rv ⟨p, n :: ns, rfl, SqL.of hp, Nat.succ_pos _, fun m h1 h2 => ?_⟩
      obtain ⟨g1, g2⟩ := maxL_ok n ns
      have em : m = maxL (n :: ns) := Int.le_antisymm (g2 m h1) (h2 _ g1)
      rw [em]
      exact q.flat hr (by simp only [DR])
    · cases hg
  · obtain ⟨e1, e2⟩ := some_pair hg
    obtain ⟨v, w, ev, cv, cw⟩ := cx.two
    simp only [CR, DR] at cv cw
    subst e1 e2 ev cv cw
    exact call_min2 hc pins s σ H _ us Q I rv ⟨_, _, rfl, q.flat hr (by simp only [DR])⟩
  · obtain ⟨e1, e2⟩ := some_pair hg
    obtain ⟨v, w, ev, cv, cw⟩ := cx.two
    simp only [CR, DR] at cv cw
    subst e1 e2 ev cv cw
    exact call_max2 hc pins s σ H _ us Q I rv ⟨_, _, rfl, q.flat hr (by simp only [DR])⟩
  -- sorted
  · rename_i ys
    cases z : ints? ys with
    | none =>
      rw [z] at hg
      cases hg
    | some ns =>
      rw [z] at hg
      obtain ⟨e1, e2⟩ := some_pair hg
      obtain ⟨v, ev, cv⟩ := cx.one
      simp only [CR] at cv
      obtain ⟨p, vs, ex, hp, rx⟩ := cv
      obtain ⟨k1, k2⟩ := DRs.ints z rx
      subst e1 e2 ev ex k1
      refine cr_sortedI pins s σ H _ us Q I rv ⟨p, ns, rfl, SqL.of hp, fun ns' p' g1 g2 hp' => q.new hr hp' ?_⟩
      have e3 : ns' = sortI ns := g1.trans (sortI_perm ns).symm |>.eq_of_pairwise (fun x y _ _ h1 h2 => Int.le_antisymm h1 h2) g2 (sortI_sorted ns)
      rw [e3]
      simp only [OR]
      exact ⟨_, rfl, DRs.ofInts _⟩
  -- list, tuple
  · obtain ⟨e1, e2⟩ := some_pair hg
    obtain ⟨v, ev, cv⟩ := cx.one
    simp only [CR] at cv
    obtain ⟨p, vs, ex, hp, rx⟩ := cv
    subst e1 e2 ev ex
    refine call_list_of pins s σ H _ us Q I rv ⟨p, vs, rfl, .inl (SqL.of hp), fun l hl => q.new hr hl ?_⟩
    simp only [OR]
    exact ⟨_, rfl, rx⟩
  · obtain ⟨e1, e2⟩ := some_pair hg
    obtain ⟨v, ev, cv⟩ := cx.one
    simp only [CR, DR] at cv
    obtain ⟨p, vs, ex, hp, rx⟩ := cv
    subst e1 e2 ev ex
    refine call_list_of pins s σ H _ us Q I rv ⟨p, vs, rfl, .inr (SqT.le hr.sub hp), fun l hl => q.new hr hl ?_⟩
    simp only [OR]
    exact ⟨_, rfl, rx⟩
  · obtain ⟨e1, e2⟩ := some_pair hg
    obtain ⟨v, ev, cv⟩ := cx.one
    simp only [CR] at cv
    obtain ⟨p, kvs, ex, hp, hks, rx⟩ := cv
    subst e1 e2 ev ex
    refine call_list_dK hc pins s σ H _ us Q I rv ⟨p, kvs, rfl, hp, fun l hl => q.new hr hl ?_⟩
    simp only [OR]
    refine ⟨_, rfl, ?_⟩
    have := keys_DR (K := X.K) (fa := fa) (F := F) hks
    rw [List.map_map] at this
    exact this
  · obtain ⟨e1, e2⟩ := some_pair hg
    obtain ⟨v, ev, cv⟩ := cx.one
    simp only [CR] at cv
    obtain ⟨p, vs, ex, hp, rx⟩ := cv
    subst e1 e2 ev ex
    refine call_tuple_of pins s σ H _ us Q I rv ⟨p, vs, rfl, .inl ⟨SqL.of hp, fun l hl => q.newT hr hl ?_⟩⟩
    simp only [OR]
    exact ⟨_, rfl, rx⟩
  · obtain ⟨e1, e2⟩ := some_pair hg
    obtain ⟨v, ev, cv⟩ := cx.one
    have cv0 := cv
    simp only [CR, DR] at cv
    obtain ⟨p, vs, ex, hp, rx⟩ := cv
    subst e1 e2 ev ex
    refine call_tuple_of pins s σ H _ us Q I rv ⟨p, vs, rfl, .inr ⟨SqT.le hr.sub hp, q.flat hr ?_⟩⟩
    simpa only [CR] using cv0
  · cases hg
/-! ### isinstance -/
def tyN : Ty → String
  | .int => "int" | .bool => "bool" | .str => "str" | .list => "list" | .tuple => "tuple" | .dict => "dict"
def rIsiD (K : PySem.W.Frag) (fa : Nat → Addr) (t : Ty) : List V → Hp → VK → Prop := fun xs H Q => ∃ (B : Bs) (F : Hp) (e : Ev) (σ : L2.St) (d : D) (x : V) (k : Bool),
  xs = [x, .ty (tyN t)] ∧ SR K fa B F e σ H ∧ CR K fa F H d x ∧ isiD d t = some k ∧ Fin K fa B F e σ (.bl k) false Q
theorem isi_ok (t : Ty) : CallR X (.builtin "isinstance") (rIsiD X.K fa t) := by
  intro pins s σ H xs us Q I rv h
  obtain ⟨B, F, e, τ, d, x, k, ex, hr, cx, hg, q⟩ := h
  have fin : Q (.bl k) H := q.flat hr (by simp only [DR])
  have go : ∀ {T : String}, TyX X.K H x (.type T) → kitB T (tyN t) = some k → wpAny (model X.prog X.w) X.A (call (.builtin "isinstance") us) (EP X pins σ Q) X.xe s := fun {T} h1 h2 =>
    call_isi pins s σ H xs us Q I rv ⟨x, .ty (tyN t), _, _, k, ex, .ty _, h1, kit_ty h2, fin⟩
  cases d with
  | non =>
    simp only [CR, DR] at cx
    subst cx
    cases hg
    refine go (T := "NoneType") (.base .non) ?_
    cases t <;> decide +kernel
  | bl b =>
    simp only [CR, DR] at cx
    subst cx
    cases t <;> cases hg <;> exact go (T := "bool") (.base (.bl b)) (by decide +kernel)
  | int b =>
    simp only [CR, DR] at cx
    subst cx
    cases t <;> cases hg <;> exact go (T := "int") (.base (.int b)) (by decide +kernel)
  | str b =>
    simp only [CR, DR] at cx
    subst cx
    cases t <;> cases hg <;> exact go (T := "str") (.base (.str _)) (by decide +kernel)
  | lst ds =>
    simp only [CR] at cx
    obtain ⟨p, vs, e1, hp, _⟩ := cx
    subst e1
    cases t <;> cases hg <;> exact go (T := "list") (.base (.lst hp)) (by decide +kernel)
  | tup ds =>
    simp only [CR, DR] at cx
    obtain ⟨p, vs, e1, hp, _⟩ := cx
    subst e1
    have ty : TyX X.K H (.ref p) (.type "tuple") := by
      rcases hp with (hp | ⟨o, hp⟩) | ⟨o, its, n, hk, hc, _⟩
      · exact .base (.tup (hr.sub _ _ hp))
      · exact .fTuple (hr.sub _ _ hp)
      · exact .kTuple hk hc
    cases t <;> cases hg <;> exact go (T := "tuple") ty (by decide +kernel)
  | dct ks ds =>
    simp only [CR] at cx
    obtain ⟨p, vs, e1, hp, _⟩ := cx
    subst e1
    cases t <;> cases hg <;> exact go (T := "dict") (.base (.dK hp)) (by decide +kernel)
  | fn i => cases hg
  | scr ns => cases hg
/-! ### methods -/
def meId : Me → String
  | .join => "str.join"
  | .index => "list.index"
  | .lcount => "list.count"
  | .scount => "str.count"
def meT : Me → String
  | .join => "str"
  | .index => "list"
  | .lcount => "list"
  | .scount => "str"
def rMe (K : PySem.W.Frag) (fa : Nat → Addr) (m : Me) : V → List V → Hp → VK → Prop := fun x xs H Q => ∃ (B : Bs) (F : Hp) (e : Ev) (σ : L2.St) (d : D) (ds : List D) (r : D) (fr : Bool),
  SR K fa B F e σ H ∧ CR K fa F H d x ∧ CRs K fa F H ds xs ∧ meD m d ds = some (r, fr) ∧ Fin K fa B F e σ r fr Q
theorem me_ok (m : Me) : MtR X (meId m) (rMe X.K fa m) := by
  intro pins s σ H x xs v us Q I rx rv h
  obtain ⟨B, F, e, τ, d, ds, r, fr, hr, cx, cxs, hg, q⟩ := h
  unfold meD at hg
  split at hg
  · rename_i a ys
    split at hg
    · rename_i zs hz
      split at hg
      · rename_i hl
        obtain ⟨e1, e2⟩ := some_pair hg
        obtain ⟨v', ev, cv⟩ := cxs.one
        simp only [CR, DR] at cx cv
        obtain ⟨p, vs, ex, hp, ry⟩ := cv
        have k1 := DRs.strs hz ry
        subst e1 e2 cx ev ex k1
        refine mt_join pins s σ H _ _ v us Q I rx rv ⟨_, p, _, rfl, rfl, .inl (SqL.of hp), ?_, q.flat hr ?_⟩
        · have z : (zs.map (·.length)).sum + zs.length * a.length ≤ sizeLine := of_decide_eq_true hl
          rw [sizeLine_eq] at z
          simp only [List.map_map, List.length_map]
          have e3 : ((fun x : Str => x.length) ∘ fun z : List Nat => (⟨z.toArray⟩ : Str)) = fun z : List Nat => z.length := by
            funext z
            simp [Str.length]
          rw [e3]
          simpa [Str.length] using z
        · simp only [DR]
          have e4 : Txt.join (⟨a.toArray⟩ : Str) (zs.map fun z => (⟨z.toArray⟩ : Str)) = ⟨(TL.joinL a zs).toArray⟩ := by
            apply TL.ext_tl
            rw [TL.join_eq, TL.tl_join, List.map_map]
            show TL.joinL a (zs.map _) = TL.joinL a zs
            congr 1
            exact List.map_id'' (fun z => rfl) zs
          rw [e4]
      · cases hg
    · cases hg
  · rename_i ys i
    split at hg
    · rename_i ns hz
      split at hg
      · rename_i hi
        obtain ⟨e1, e2⟩ := some_pair hg
        obtain ⟨v', ev, cv⟩ := cxs.one
        simp only [CR, DR] at cx cv
        obtain ⟨p, vs, ex, hp, ry⟩ := cx
        obtain ⟨k1, k2⟩ := DRs.ints hz ry
        subst e1 e2 ex ev k1 cv
        have hlt : ns.idxOf i < ns.length := List.idxOf_lt_length_iff.mpr hi
        refine mt_index pins s σ H _ _ v us Q I rx rv ⟨p, ns.map V.int, .int i, ns.idxOf i, .int i, rfl, rfl, SqL.of hp, rfl, ?_, ?_, ?_, ?_, q.flat hr (by simp only [DR])⟩
        · rw [List.all_map, List.all_eq_true]
          exact fun _ _ => rfl
        · rw [List.getElem?_map, List.getElem?_eq_getElem hlt, List.getElem_idxOf hlt]
          rfl
        · simp [eqV]
        · intro m z' hm hz'
          have hml : m < ns.length := by omega
          rw [List.getElem?_map, List.getElem?_eq_getElem hml] at hz'
          cases hz'
          have hne : (ns[m] == i) = false := by
            have := List.not_of_lt_findIdx (xs := ns) (p := (· == i)) (i := m) hm
            simpa using this
          have hne2 : ¬ ns[m] = i := by simpa using hne
          simp [eqV, hne2]
      · cases hg
    · cases hg
  · rename_i ys i
    cases hz : ints? ys with
    | none =>
      rw [hz] at hg
      cases hg
    | some ns =>
      rw [hz] at hg
      obtain ⟨e1, e2⟩ := some_pair hg
      obtain ⟨v', ev, cv⟩ := cxs.one
      simp only [CR, DR] at cx cv
      obtain ⟨p, vs, ex, hp, ry⟩ := cx
      obtain ⟨k1, k2⟩ := DRs.ints hz ry
      subst e1 e2 ex ev k1 cv
      exact mt_lcount pins s σ H _ _ v us Q I rx rv ⟨p, ns, i, rfl, rfl, SqL.of hp, q.flat hr (by simp only [DR])⟩
  · obtain ⟨e1, e2⟩ := some_pair hg
    obtain ⟨v', ev, cv⟩ := cxs.one
    simp only [CR, DR] at cx cv
    subst e1 e2 cx ev cv
    exact mt_count pins s σ H _ _ v us Q I rx rv ⟨_, _, rfl, rfl, q.flat hr (by simp only [DR])⟩
  · cases hg
theorem meTy_ok {F H : Hp} {K : PySem.W.Frag} {m : Me} {d : D} {x : V} (h : meTy m d = true) (cx : CR K fa F H d x) : tyV K (meT m) x H := by
  cases m <;> cases d <;> try (cases h)
  · simp only [CR, DR] at cx
    subst cx
    rfl
  · simp only [CR] at cx
    obtain ⟨p, vs, e, hp, _⟩ := cx
    subst e
    exact .inl ⟨rfl, vs, SqL.of hp⟩
  · simp only [CR] at cx
    obtain ⟨p, vs, e, hp, _⟩ := cx
    subst e
    exact .inl ⟨rfl, vs, SqL.of hp⟩
  · simp only [CR, DR] at cx
    subst cx
    rfl
/-! ### methods that change -/
def muId : Mu → String
  | .append => "list.append"
  | .pop => "list.pop"
/-- the receiver stands in slot i -/
def rMu (K : PySem.W.Frag) (fa : Nat → Addr) (m : Mu) (i : Nat) : V → List V → Hp → VK → Prop := fun x xs H Q => ∃ (B : Bs) (F : Hp) (e : Ev) (σ : L2.St) (d : D) (ds : List D) (d' r : D),
  SR K fa B F e σ H ∧ σ[i]? = some (some x) ∧ e[i]? = some (.ow d) ∧ DRs K fa F ds xs ∧ muD m d ds = some (d', r) ∧ Fin K fa B F (e.set i (.ow d')) σ r false Q
theorem mu_ok (m : Mu) (i : Nat) : MtR X (muId m) (rMu X.K fa m i) := by
  intro pins s σ H x xs v us Q I rx rv h
  obtain ⟨B, F, e, τ, d, ds, d', r, hr, hx, he, cxs, hg, q⟩ := h
  obtain ⟨p, o, h1, h2, h3, h4, h5, hm⟩ := hr.ow he
  rw [hx] at h1
  cases h1
  unfold muD at hg
  split at hg
  · rename_i ys y
    split at hg
    · rename_i hl
      cases hg
      simp only [OR] at h3
      obtain ⟨vs, eo, ry⟩ := h3
      simp only [DRs] at cxs
      obtain ⟨w, r', e1, c1, e2⟩ := cxs
      subst eo e1 e2
      have hl' : ys.length < sizeLine := of_decide_eq_true hl
      have ho : OR X.K fa F (.lst (ys ++ [y])) (.lst (vs ++ [w])) := by
        simp only [OR]
        exact ⟨_, rfl, DRs.append ry (DRs.cons c1 DRs.nil)⟩
      refine mt_append pins s σ H _ _ v us Q I rx rv ⟨p, vs, w, rfl, rfl, h2, by rw [← DRs.length ry]; exact hl', ?_⟩
      exact q.flat (hr.write he hx ho rfl) (by simp only [DR])
    · cases hg
  · rename_i ys
    split at hg
    · rename_i y hy
      cases hg
      simp only [OR] at h3
      obtain ⟨vs, eo, ry⟩ := h3
      simp only [DRs] at cxs
      subst eo cxs
      obtain ⟨w, g1, g2⟩ := DRs.get ry hy
      have ho : OR X.K fa F (.lst ys.dropLast) (.lst vs.dropLast) := by
        simp only [OR]
        exact ⟨_, rfl, DRs.dropLast ry⟩
      refine mt_pop pins s σ H _ _ v us Q I rx rv ⟨p, vs, w, rfl, rfl, h2, by rw [← DRs.length ry]; exact g1, ?_⟩
      exact q.flat (hr.write he hx ho rfl) g2
    · cases hg
  · cases hg
theorem muTy_ok {F H : Hp} {K : PySem.W.Frag} {m : Mu} {d : D} {o : HO} {p : Addr} (h : muTy m d = true) (hp : H p = some o) (ho : OR K fa F d o) : tyV K "list" (.ref p) H := by
  cases m <;> cases d <;> try (cases h)
  all_goals
    simp only [OR] at ho
    obtain ⟨vs, e, _⟩ := ho
    subst e
    exact .inl ⟨rfl, vs, SqL.of hp⟩
/-- x[k] = y, x in slot i -/
def rSetD (K : PySem.W.Frag) (fa : Nat → Addr) (i : Nat) : TSet := fun x k y H Q => ∃ (B : Bs) (F : Hp) (e : Ev) (σ : L2.St) (c j d c' : D),
  SR K fa B F e σ H ∧ σ[i]? = some (some x) ∧ e[i]? = some (.ow c) ∧ DR K fa F j k ∧ DR K fa F d y ∧ setD c j d = some c' ∧ ∀ F' H', Le F F' → SR K fa B F' (e.set i (.ow c')) σ H' → Q H'
theorem set_ok (hu : X.A.units + 1 < cLine) (i : Nat) : PSet X (rSetD X.K fa i) := by
  intro pins s σ H x k y ov iv u Q I rx rk ry h
  obtain ⟨B, F, e, τ, c, j, d, c', hr, hx, he, dk, dy, hg, q⟩ := h
  obtain ⟨p, o, h1, h2, h3, h4, h5, hm⟩ := hr.ow he
  rw [hx] at h1
  cases h1
  unfold setD at hg
  split at hg
  · rename_i ys n
    cases z : ixN ys.length n with
    | none =>
      rw [z] at hg
      cases hg
    | some m =>
      rw [z] at hg
      cases hg
      simp only [OR] at h3
      obtain ⟨vs, eo, rr⟩ := h3
      simp only [DR] at dk
      subst eo dk
      have ho : OR X.K fa F (.lst (ys.set m d)) (.lst (vs.set m y)) := by
        simp only [OR]
        exact ⟨_, rfl, DRs.set m dy rr⟩
      exact set_list pins s σ H _ _ y ov iv u Q I rx rk ry ⟨p, vs, n, m, rfl, rfl, h2, by rw [← DRs.length rr]; exact z, q F _ (Le.refl F) (hr.write he hx ho rfl)⟩
  · rename_i ks ws
    split at hg
    · rename_i hc
      obtain ⟨hkey, hl⟩ := Bool.and_eq_true_iff.mp hc
      cases hg
      obtain ⟨kd, hkd⟩ := key_of' hkey
      simp only [OR] at h3
      obtain ⟨kvs, eo, hks, rr⟩ := h3
      have ek := keyD_kV hkd dk
      subst eo ek
      obtain ⟨g1, g2⟩ := put_key hks rr hkd dy
      have ho : OR X.K fa F (.dct (putD ks ws j d).1 (putD ks ws j d).2) (.dK (putK kvs kd y)) := by
        simp only [OR]
        exact ⟨_, rfl, g1, g2⟩
      have hl : ks.length < sizeLine := of_decide_eq_true hl
      rw [keys_len hks, List.length_map] at hl
      obtain rfl : ov = Value.ref p := rx
      exact d_setItem hu I (DPut.k (k := kd) h2 hl) rk ry fun s4 I4 => ⟨_, I4, q F _ (Le.refl F) (hr.write he hx ho rfl)⟩
    · cases hg
  · cases hg
end
end EV
/-! The text and its evaluator's text. -/
namespace EV
open PySem L2
/-! ### is the one the other -/
def okE : Expr → Bool
  | .Starred .. | .Slice .. | .Set .. | .NamedExpr .. => false
  | _ => true
/-- an expression whose test is its value's truth -/
def plainT : Expr → Bool
  | .BoolOp .. | .IfExp .. | .Compare .. => false
  | .UnaryOp .Not .. => false
  | _ => true
def okRecv : Expr → Bool
  | .Call _ [] _ _ => false
  | _ => true
structure ErR where
  e : Expr → Bool
  es : List Expr → Bool
  i : Expr → Bool
  o : Option Expr → Bool
  c : List Expr → Bool
def eF (f : Expr → Bool) : ErR where
  e := fun x => okE x && f x
  es := fun _ => false
  i := fun x => okE x && f x
  o := fun x => match x with
    | some x => okE x && f x
    | none => false
  c := fun x => match x with
    | [x] => okE x && f x
    | _ => false
def eNo : ErR := ⟨fun _ => false, fun _ => false, fun _ => false, fun _ => false, fun _ => false⟩
def visB (sc : Scope) (x : Str) : Bool := match sc.names.lookup x with
  | some .local | some .cell | some .free => true
  | _ => false
def locB (sc : Scope) (x : Str) : Bool := match sc.names.lookup x with
  | some .local => true
  | _ => false
def glB (sc : Scope) (x : Str) : Bool := match sc.names.lookup x with
  | some .globalImplicit => true
  | _ => false
def nmB (x : Str) : Bool := !(x == ("__debug__" : Str)) && !(x == ("__classdict__" : Str)) && !decide (x = "__name__")
def slotB (N : List Str) (sc : Scope) (i : Nat) (x : Str) : Bool := decide (N[i]? = some x) && visB sc x && nmB x
def litB : D → Const → Bool
  | .non, .none => true
  | .bl b, .bool c => b == c
  | .int i, .int j => decide (i = j)
  | .str s, .str x => decide (x.cps.toList = s)
  | _, _ => false
def biNm : Bi → Str
  | .len => "len" | .intF => "int" | .strF => "str" | .absF => "abs" | .sum => "sum" | .min1 => "min" | .max1 => "max" | .min2 => "min" | .max2 => "max" | .sorted => "sorted" | .listF => "list" | .tupleF => "tuple"
def meNm : Me → Str
  | .join => "join"
  | .index => "index"
  | .lcount => "count"
  | .scount => "count"
def muNm : Mu → Str
  | .append => "append"
  | .pop => "pop"
def tyNm (t : Ty) : Str := Str.ofString (tyN t)
def celB (sc : Scope) (x : Str) : Bool := match sc.names.lookup x with
  | some .cell => true
  | _ => false
/-- may be stored here: a local, a cell of this scope's own -/
def stB (sc : Scope) (fb : Str → Bool) (x : Str) : Bool := locB sc x || (celB sc x && fb x)
/-- a target of a for or of a comprehension: its names in their slots, of this scope -/
def tgB (N : List Str) (sc : Scope) (fb : Str → Bool) : Tg → Expr → Bool
  | .nm i, .Name x _ => decide (N[i]? = some x) && stB sc fb x
  | .tp is, .Tuple es _ _ => tgs is es
  | _, _ => false
where
  tgs : List Nat → List Expr → Bool
    | [], [] => true
    | i :: is, .Name x _ :: es => decide (N[i]? = some x) && stB sc fb x && tgs is es
    | _, _ => false
def tgIn (vs : List Nat) : Tg → Bool
  | .nm i => decide (i ∈ vs)
  | .tp is => is.all fun i => decide (i ∈ vs)
def erR (G : Cfg) (N : List Str) (lv : Bool) : SE → Scope → ErR
  | .var i, sc => eF fun x => match x with
    | .Name x _ => slotB N sc i x
    | _ => false
  | .lit d, _ => eF fun x => match x with
    | .Constant c _ _ => litB d c
    | _ => false
  | .glo g, sc => eF fun x => match x with
    | .Name x _ => (match G.glos[g]? with | some p => decide (p.1 = x) | none => false) && glB sc x && nmB x
    | _ => false
  | .fnv f, sc => eF fun x => match x with
    | .Name x _ => (match G.fns[f]? with | some p => decide (p.name = x) | none => false) && glB sc x && nmB x
    | _ => false
  | .bin op a b, sc => eF fun x => match x with
    | .BinOp l o r _ => decide (o = op) && (erR G N lv a sc).e l && (erR G N lv b sc).e r
    | _ => false
  | .una op a, sc => eF fun x => match x with
    | .UnaryOp o l _ => decide (o = op) && (match op with | .USub | .Invert => true | _ => false) && (erR G N lv a sc).e l
    | _ => false
  | .cmp op a b, sc => eF fun x => match x with
    | .Compare l [o] [r] _ => decide (o = op) && (erR G N lv a sc).e l && (erR G N lv b sc).e r
    | _ => false
  | .cmp2 o p a b c, sc => eF fun x => match x with
    | .Compare l [o', p'] [r, q] _ => decide (o' = o) && decide (p' = p) && (erR G N lv a sc).e l && (erR G N lv b sc).e r && (erR G N lv c sc).e q
    | _ => false
  | .and a b, sc => eF fun x => match x with
    | .BoolOp .And [l, r] _ => (erR G N lv a sc).e l && (erR G N lv b sc).e r
    | .BoolOp .And (l :: r :: q :: rest) p => (erR G N lv a sc).e l && (erR G N lv b sc).e (.BoolOp .And (r :: q :: rest) p)
    | _ => false
  | .or a b, sc => eF fun x => match x with
    | .BoolOp .Or [l, r] _ => (erR G N lv a sc).e l && (erR G N lv b sc).e r
    | .BoolOp .Or (l :: r :: q :: rest) p => (erR G N lv a sc).e l && (erR G N lv b sc).e (.BoolOp .Or (r :: q :: rest) p)
    | _ => false
  | .not a, sc => eF fun x => match x with
    | .UnaryOp .Not l _ => (erR G N lv a sc).e l
    | _ => false
  | .ife c a b, sc => eF fun x => match x with
    | .IfExp t l r _ => (erR G N lv c sc).e t && (erR G N lv a sc).e l && (erR G N lv b sc).e r
    | _ => false
  | .lst xs, sc => eF fun x => match x with
    | .List es _ => (erR G N lv xs sc).es es
    | _ => false
  | .tup xs, sc => eF fun x => match x with
    | .Tuple es _ _ => (erR G N lv xs sc).es es
    | _ => false
  | .ix a b, sc => eF fun x => match x with
    | .Subscript l r _ => (erR G N lv a sc).e l && (erR G N lv b sc).e r
    | _ => false
  | .sl a lo hi, sc => eF fun x => match x with
    | .Subscript l (.Slice l1 h1 none _) _ => (erR G N lv a sc).e l && (erR G N lv lo sc).o l1 && (erR G N lv hi sc).o h1
    | _ => false
  | .call f xs, sc => eF fun x => lv && match x with
    | .Call (.Name x _) es [] _ => (match G.fns[f]? with | some p => decide (p.name = x) | none => false) && glB sc x && nmB x && (erR G N lv xs sc).es es
    | _ => false
  | .callv i xs, sc => eF fun x => lv && match x with
    | .Call (.Name x _) (e :: es) [] _ => slotB N sc i x && (erR G N lv xs sc).es (e :: es)
    | _ => false
  | .bi b xs, sc => eF fun x => lv && match x with
    | .Call (.Name x _) (e :: es) [] _ => decide (x = biNm b) && glB sc x && (erR G N lv xs sc).es (e :: es)
    | _ => false
  | .isi a t, sc => eF fun x => match x with
    | .Call (.Name x _) [l, .Name y _] [] _ => decide (x = "isinstance") && glB sc x && decide (y = tyNm t) && glB sc y && (erR G N lv a sc).e l
    | _ => false
  | .me m r xs, sc => eF fun x => match x with
    | .Call (.Attribute o at_ ap) (e :: es) [] cp => decide (at_ = meNm m) && (ap.endLine == cp.line) && okRecv o && (erR G N lv r sc).e o && (erR G N lv xs sc).es (e :: es) && decide (es.length < 20)
    | _ => false
  | .mu m i xs, sc => eF fun x => match x with
    | .Call (.Attribute (.Name x _) at_ ap) es [] cp => decide (at_ = muNm m) && (ap.endLine == cp.line) && slotB N sc i x && (erR G N lv xs sc).es es && decide (es.length < 20)
    | _ => false
  | .comp el tg it c own, sc => eF fun x => lv && match x with
    | .ListComp elt [⟨tge, ite, ifs, 0⟩] scope _ => blkC N sc scope own && (erR G N lv it sc).i ite && tgB N (relS scope sc) (celB scope) tg tge && tgIn (own.map (·.2)) tg && (erR G N lv c (relS scope sc)).c ifs && (erR G N lv el (relS scope sc)).e elt
    | _ => false
  | .rng1 a, sc => { eNo with i := fun x => match x with
      | .Call (.Name x _) [l] [] _ => decide (x = "range") && glB sc x && (erR G N lv a sc).e l
      | _ => false }
  | .rng2 a b, sc => { eNo with i := fun x => match x with
      | .Call (.Name x _) [l, r] [] _ => decide (x = "range") && glB sc x && (erR G N lv a sc).e l && (erR G N lv b sc).e r
      | _ => false }
  | .lrng1 a, sc => eF fun x => lv && match x with
    | .Call (.Name y _) [.Call (.Name x _) [l] [] _] [] _ => decide (y = "list") && glB sc y && decide (x = "range") && glB sc x && (erR G N lv a sc).e l
    | _ => false
  | .lrng2 a b, sc => eF fun x => lv && match x with
    | .Call (.Name y _) [.Call (.Name x _) [l, r] [] _] [] _ => decide (y = "list") && glB sc y && decide (x = "range") && glB sc x && (erR G N lv a sc).e l && (erR G N lv b sc).e r
    | _ => false
  | .dnew, _ => eF fun x => match x with
    | .Dict [] [] _ => true
    | _ => false
  | .dcomp kx vx tg it c own, sc => eF fun x => lv && match x with
    | .DictComp elk elt [⟨tge, ite, ifs, 0⟩] scope _ => blkC N sc scope own && (erR G N lv it sc).i ite && tgB N (relS scope sc) (celB scope) tg tge && tgIn (own.map (·.2)) tg && (erR G N lv c (relS scope sc)).c ifs && (erR G N lv kx (relS scope sc)).e elk && (erR G N lv vx (relS scope sc)).e elt
    | _ => false
  | .nop, _ => { eNo with
      o := fun x => match x with
        | none => true
        | _ => false
      c := fun x => match x with
        | [] => true
        | _ => false }
  | .nil, _ => { eNo with es := fun x => match x with
      | [] => true
      | _ => false }
  | .cons a xs, sc => { eNo with es := fun x => match x with
      | e :: es => (erR G N lv a sc).e e && (erR G N lv xs sc).es es
      | _ => false }
/-! ### what is known of the program -/
def blts : List Str := ["len", "int", "str", "abs", "sum", "min", "max", "sorted", "list", "tuple", "isinstance", "range", "bool", "dict"]
structure Facts (K : PySem.W.Frag) (mg : Str → Option Value) (G : Cfg) (fa xa : Nat → Addr) : Prop where
  glo : ∀ (g : Nat) (x : Str) (d : D), G.glos[g]? = some (x, d) → ∃ u v, mg x = some u ∧ RelV v u ∧ ∀ F, DR K fa F d v
  fn : ∀ (f : Nat) (fi : Fn), G.fns[f]? = some fi → mg fi.name = some (.ref (fa f)) ∧ fi.np ≤ fi.N.length
  free : ∀ x, x ∈ blts → mg x = none
  exc : ∀ (c : Nat) (x : Str), G.exs[c]? = some x → mg x = some (.ref (xa c)) ∧ PySem.W.excIn K (xa c) He.veBase "ValueError.__new__" = true ∧ PySem.W.keepIn K (.ref (xa c)) = true ∧
    PySem.W.subIn K (.ref (xa c)) (.type "BaseException") = some true ∧ PySem.W.typeIn K (.ref (xa c)) = some (.type "type")
  sub : ∀ (c h : Nat) (x y : Str), G.exs[c]? = some x → G.exs[h]? = some y → PySem.W.exmOne K (.ref (xa c)) (.ref (xa h)) = some (isHd G h c)
/-- the frame of a def called with sls -/
def frame (fi : Fn) (sls : List Sl) : Ev := sls ++ List.replicate (fi.N.length - sls.length) .no
def spFn (K : PySem.W.Frag) (fa xa : Nat → Addr) (fi : Fn) (call : Nat → List Sl → FR) (f : Nat) : Sp := fun vs H Q E => ∃ (F : Hp) (sls : List Sl) (IO : List Addr) (ios : List (Nat × Addr)),
  vs.length = fi.np ∧ sls.length = fi.np ∧ SR K fa ⟨F, H, IO, ios⟩ F (frame fi sls) (start fi.N vs) H ∧ (∀ p ∈ ios, ioAt fi.io p.1 = true) ∧
    match call f sls with
    | .st => False
    | .er c e' => ∀ F' σ' H', Le F F' → SR K fa ⟨F, H, IO, ios⟩ F' e' σ' H' → E (.ref (xa c)) none H'
    | .ok d fr e' => ∀ F' σ' H' v, Le F F' → SR K fa ⟨F, H, IO, ios⟩ F' e' σ' H' → FV K fa ⟨F, H, IO, ios⟩ F' e' σ' H' d fr v → Q v H'
def Calls (P : Program) (w : World) (K : PySem.W.Frag) (mg : Str → Option Value) (base : Heap) (G : Cfg) (fa xa : Nat → Addr) (call : Nat → List Sl → FR) (k : Nat) : Prop :=
  ∀ (f : Nat) (fi : Fn), G.fns[f]? = some fi → ∃ fd, FnOk P w K mg base (L2.CX P w) k (fa f) fd (fi.N.take fi.np) (spFn K fa xa fi call f) ∧ PySem.W.keepIn K (.ref (fa f)) = true ∧ Binds K fd (fi.N.take fi.np) []
structure GoodE (G : Cfg) (fa xa : Nat → Addr) (call : Nat → List Sl → FR) (k : Nat) (lv : Bool) (X : Cx) (sc : Scope) (W : WX) : Prop where
  scope : X.env.scope = sc
  nd : X.N.Nodup
  un : X.A.units + 65 < cLine
  calm : lv = true → X.calm = true
  room : lv = true → Room k X.A
  tk : Takes X W
  facts : Facts X.K X.mg G fa xa
  calls : Calls X.prog X.w X.K X.mg X.base G fa xa call k
/-! ### readings -/
section
variable (K : PySem.W.Frag) (fa xa : Nat → Addr) (W : WX)
def XP {α : Type} (B : Bs) (F : Hp) (σ : L2.St) (r : R α) (ok : α → Ev → Prop) : Prop := match r with
  | .ok a e => ok a e
  | .er c e => ∀ F' H', Le F F' → SR K fa B F' e σ H' → W (.ref (xa c)) none σ H'
  | .st => False
def rF (f : Ev → R (D × Bool)) : TE := fun σ H Q => ∃ B F e, SR K fa B F e σ H ∧ XP K fa xa W B F σ (f e) fun x e' => Fin K fa B F e' σ x.1 x.2 Q
def rT (f : Ev → R Bool) : TT := fun σ H Q => ∃ B F e, SR K fa B F e σ H ∧ XP K fa xa W B F σ (f e) fun k e' => ∀ F' H', Le F F' → SR K fa B F' e' σ H' → Q k H'
def BV (F : Hp) (σ : L2.St) : Bor → V → Prop
  | .dat d, v => DR K fa F d v
  | .slot i, v => σ[i]? = some (some v)
def BVs (F : Hp) (σ : L2.St) : List Bor → List V → Prop
  | [], vs => vs = []
  | b :: bs, vs => ∃ v r, vs = v :: r ∧ BV K fa F σ b v ∧ BVs F σ bs r
def rB (f : Ev → R Bor) : TE := fun σ H Q => ∃ B F e, SR K fa B F e σ H ∧ XP K fa xa W B F σ (f e) fun b e' => ∀ F' H' v, Le F F' → SR K fa B F' e' σ H' → BV K fa F' σ b v → Q v H'
def rBs (f : Ev → R (List Bor)) : TA := fun σ H Q => ∃ B F e, SR K fa B F e σ H ∧ XP K fa xa W B F σ (f e) fun bs e' => ∀ F' H' vs, Le F F' → SR K fa B F' e' σ H' → BVs K fa F' σ bs vs → Q vs H'
def rO (f : Ev → R (Option Int)) : TO := fun σ H Q => ∃ B F e, SR K fa B F e σ H ∧ XP K fa xa W B F σ (f e) fun o e' => ∀ F' H', Le F F' → SR K fa B F' e' σ H' → Q o H'
/-- what a loop walks: the data ds, from now on -/
def WalkD (J : It) (ds : List D) (F0 : Hp) : Prop := ∃ (Gp : Hp → Prop) (Y : Nat → Hp → V → Hp → Prop), L2.Walk J ds.length Gp Y ∧ (∀ H, Le F0 H → Gp H) ∧
  ∀ (i : Nat) (H : Hp) (x : V) (H' : Hp) (B : Bs) (F : Hp) (e : Ev) (σ : L2.St), i < ds.length → Le F0 F → SR K fa B F e σ H → Y i H x H' → ∃ F' d, ds[i]? = some d ∧ Le F F' ∧ SR K fa B F' e σ H' ∧ DR K fa F' d x
def rI (f : Ev → R (List D)) : TI := fun σ H R => ∃ B F e, SR K fa B F e σ H ∧ XP K fa xa W B F σ (f e) fun ds e' => ∀ F' H' J, Le F F' → SR K fa B F' e' σ H' → WalkD K fa J ds F' → R J H'
end
end EV
/-! Expressions come to what the evaluator says: the means. -/
namespace EV
open PySem L2
theorem PE.imp {X : Cx} {e : Expr} {t t' : TE} (h : PE X e t) (i : ∀ σ H Q, t' σ H Q → t σ H Q) : PE X e t' := ⟨fun pins s σ H Q I q => h.run pins s σ H Q I (i σ H Q q)⟩
theorem PT.imp {X : Cx} {e : Expr} {t t' : TT} (h : PT X e t) (i : ∀ σ H Q, t' σ H Q → t σ H Q) : PT X e t' := ⟨fun pins s σ H Q I q => h.run pins s σ H Q I (i σ H Q q)⟩
theorem PW.imp {X : Cx} {e : Expr} {t t' : TT} (h : PW X e t) (i : ∀ σ H Q, t' σ H Q → t σ H Q) : PW X e t' := ⟨fun wh pins s σ H Q I q => h.run wh pins s σ H Q I (i σ H Q q)⟩
theorem PA.imp {X : Cx} {e : List Expr} {t t' : TA} (h : PA X e t) (i : ∀ σ H Q, t' σ H Q → t σ H Q) : PA X e t' := ⟨fun pos pins s σ H Q I q => h.run pos pins s σ H Q I (i σ H Q q)⟩
theorem PO.imp {X : Cx} {e : Option Expr} {t t' : TO} (h : PO X e t) (i : ∀ σ H Q, t' σ H Q → t σ H Q) : PO X e t' := ⟨fun pins s σ H Q I q => h.run pins s σ H Q I (i σ H Q q)⟩
theorem PI.imp {X : Cx} {tg e : Expr} {t t' : TI} (h : PI X tg e t) (i : ∀ σ H Q, t' σ H Q → t σ H Q) : PI X tg e t' := ⟨fun pins s σ H Q I q => h.run pins s σ H Q I (i σ H Q q)⟩
theorem PI.or {X : Cx} {tg e : Expr} {t t' : TI} (h : PI X tg e t) (h' : PI X tg e t') : PI X tg e (fun σ H R => t σ H R ∨ t' σ H R) := ⟨fun pins s σ H Q I q => q.elim (h.run pins s σ H Q I) (h'.run pins s σ H Q I)⟩
theorem PTs.imp {X : Cx} {e : List Expr} {t t' : TT} (h : PTs X e t) (i : ∀ σ H Q, t' σ H Q → t σ H Q) : PTs X e t' := ⟨fun pins s σ H Q I q => h.run pins s σ H Q I (i σ H Q q)⟩
section
variable {K : PySem.W.Frag} {fa xa : Nat → Addr} {W : WX} {B : Bs} {F F' H H' : Hp} {e : Ev} {σ : L2.St}
theorem XP.imp {α : Type} {r : R α} {ok ok' : α → Ev → Prop} (h : XP K fa xa W B F σ r ok) (i : ∀ a e, r = .ok a e → ok a e → ok' a e) : XP K fa xa W B F σ r ok' := by
  cases r with
  | ok a e => exact i a e rfl h
  | er c e => exact h
  | st => exact h
theorem XP.run {α β : Type} {r : R β} {k : β → Ev → R α} {ok : α → Ev → Prop} (h : XP K fa xa W B F σ (r.bind k) ok) (l : Le F F') : XP K fa xa W B F' σ r fun b e' => XP K fa xa W B F σ (k b e') ok := by
  cases r with
  | ok a e => exact h
  | er c e => exact fun F1 H1 l1 r1 => h F1 H1 (l.trans l1) r1
  | st => exact h
theorem XP.of {α : Type} {o : Option α} {ok : α → Ev → Prop} (h : XP K fa xa W B F σ (R.of o e) ok) : ∃ a, o = some a ∧ ok a e := by
  cases o with
  | none => exact h.elim
  | some a => exact ⟨a, rfl, h⟩
theorem Fin.le {d : D} {fr : Bool} {Q : VK} (l : Le F F') (h : Fin K fa B F e σ d fr Q) : Fin K fa B F' e σ d fr Q := fun F1 H1 v l1 => h F1 H1 v (l.trans l1)
theorem BV.le {b : Bor} {v : V} (l : Le F F') (h : BV K fa F σ b v) : BV K fa F' σ b v := by
  cases b with
  | dat d => exact DR.le l d v h
  | slot i => exact h
theorem BVs.le (l : Le F F') : ∀ {bs : List Bor} {vs : List V}, BVs K fa F σ bs vs → BVs K fa F' σ bs vs
  | [], vs, h => h
  | b :: bs, vs, h => by
    simp only [BVs] at h ⊢
    obtain ⟨v, r, e1, h1, h2⟩ := h
    exact ⟨v, r, e1, BV.le l h1, BVs.le l h2⟩
/-- what is borrowed may be read -/
theorem BV.cr (r : SR K fa B F e σ H) {b : Bor} {v : V} {d : D} (h : BV K fa F σ b v) (q : b.res e = some d) : CR K fa F H d v := by
  cases b with
  | dat d' =>
    have e1 : d' = d := Option.some.inj q
    subst e1
    exact DR.cr r.sub h
  | slot i =>
    have q' : (e.getD i .no).get? = some d := q
    have h' : σ[i]? = some (some v) := h
    cases z : e.getD i .no with
    | no =>
      rw [z] at q'
      cases q'
    | sh d' =>
      rw [z] at q'
      cases q'
      obtain ⟨w, h1, v', h2, h3⟩ := r.at (getD_sh z)
      rw [h1] at h'
      cases h'
      cases h2
      exact DR.cr r.sub h3
    | ow d' =>
      rw [z] at q'
      cases q'
      obtain ⟨a, o, h1, h2, h3, _, _, hm⟩ := r.ow (getD_ow z)
      rw [h1] at h'
      cases h'
      exact OR.cr h2 h3 hm
theorem BVs.crs (r : SR K fa B F e σ H) : ∀ {bs : List Bor} {vs : List V} {ds : List D}, BVs K fa F σ bs vs → ress e bs = some ds → CRs K fa F H ds vs
  | [], vs, ds, h, q => by
    simp only [ress, Option.some.injEq] at q
    subst q
    simpa only [CRs, BVs] using h
  | b :: bs, vs, ds, h, q => by
    simp only [BVs] at h
    obtain ⟨v, rr, e1, h1, h2⟩ := h
    simp only [ress] at q
    cases z1 : b.res e with
    | none =>
      rw [z1] at q
      cases q
    | some d =>
      cases z2 : ress e bs with
      | none =>
        rw [z1, z2] at q
        cases q
      | some ds' =>
        rw [z1, z2] at q
        cases q
        simp only [CRs]
        exact ⟨v, rr, e1, BV.cr r h1 z1, BVs.crs r h2 z2⟩
/-- what is borrowed becomes data -/
theorem SR.frzB (r : SR K fa B F e σ H) {b : Bor} {v : V} {d : D} (h : BV K fa F σ b v) (q : b.res e = some d) : ∃ F', Le F F' ∧ SR K fa B F' (b.frz e) σ H ∧ DR K fa F' d v ∧ b.res (b.frz e) = some d := by
  cases b with
  | dat d' =>
    have e1 : d' = d := Option.some.inj q
    subst e1
    exact ⟨F, Le.refl F, r, h, rfl⟩
  | slot i =>
    have q' : (e.getD i .no).get? = some d := q
    have h' : σ[i]? = some (some v) := h
    have hl : i < e.length := by
      rw [r.len]
      exact (List.getElem?_eq_some_iff.mp h').1
    show ∃ F', Le F F' ∧ SR K fa B F' (e.set i (e.getD i .no).frz) σ H ∧ DR K fa F' d v ∧ ((e.set i (e.getD i .no).frz).getD i .no).get? = some d
    cases z : e.getD i .no with
    | no =>
      rw [z] at q'
      cases q'
    | sh d' =>
      rw [z] at q'
      cases q'
      obtain ⟨w, h1, v', h2, h3⟩ := r.at (getD_sh z)
      rw [h1] at h'
      cases h'
      cases h2
      refine ⟨F, Le.refl F, r.put h1 h3, h3, ?_⟩
      rw [List.getD_eq_getElem?_getD, List.getElem?_set_self hl] <;> rfl
    | ow d' =>
      rw [z] at q'
      cases q'
      obtain ⟨F', v', l, r', h1, h2⟩ := r.frzSlot (getD_ow z)
      rw [h1] at h'
      cases h'
      refine ⟨F', l, r', h2, ?_⟩
      rw [List.getD_eq_getElem?_getD, List.getElem?_set_self hl] <;> rfl
/-- freezing one does not change what another one tells -/
theorem res_frz (b b' : Bor) (e : Ev) : b'.res (b.frz e) = b'.res e := by
  cases b with
  | dat d => rfl
  | slot i =>
    cases b' with
    | dat d => rfl
    | slot j =>
      show ((e.set i (e.getD i .no).frz).getD j .no).get? = (e.getD j .no).get?
      by_cases hj : i = j
      · subst hj
        by_cases hl : i < e.length
        · rw [List.getD_eq_getElem?_getD, List.getElem?_set_self hl]
          show (e.getD i .no).frz.get? = _
          cases e.getD i .no <;> rfl
        · rw [List.set_eq_of_length_le (by omega)]
      · simp only [List.getD_eq_getElem?_getD, List.getElem?_set_ne hj]
theorem ress_frz (b : Bor) (e : Ev) : ∀ bs : List Bor, ress (b.frz e) bs = ress e bs
  | [] => rfl
  | c :: bs => by simp only [ress, res_frz, ress_frz b e bs]
theorem SR.frzBs : ∀ {bs : List Bor} {F : Hp} {e : Ev} {vs : List V} {ds : List D}, SR K fa B F e σ H → BVs K fa F σ bs vs → ress e bs = some ds → ∃ F', Le F F' ∧ SR K fa B F' (frzs e bs) σ H ∧ DRs K fa F' ds vs
  | [], F, e, vs, ds, r, h, q => by
    simp only [ress, Option.some.injEq] at q
    simp only [BVs] at h
    subst q h
    exact ⟨F, Le.refl F, r, DRs.nil⟩
  | b :: bs, F, e, vs, ds, r, h, q => by
    simp only [BVs] at h
    obtain ⟨v, rr, e1, h1, h2⟩ := h
    simp only [ress] at q
    cases z1 : b.res e with
    | none =>
      rw [z1] at q
      cases q
    | some d =>
      cases z2 : ress e bs with
      | none =>
        rw [z1, z2] at q
        cases q
      | some ds' =>
        rw [z1, z2] at q
        cases q
        obtain ⟨F1, l1, r1, d1, _⟩ := r.frzB h1 z1
        obtain ⟨F2, l2, r2, d2⟩ := SR.frzBs (ds := ds') r1 (BVs.le l1 h2) (by rw [ress_frz]; exact z2)
        subst e1
        exact ⟨F2, l1.trans l2, r2, DRs.cons (DR.le l2 _ _ d1) d2⟩
end
/-! ### what an expression's evaluator is right of -/
structure Snd (G : Cfg) (fa xa : Nat → Addr) (call : Nat → List Sl → FR) (X : Cx) (W : WX) (A : EvR) (C : ErR) : Prop where
  e : ∀ x, C.e x = true → PE X x (rF X.K fa xa W A.f)
  t : ∀ x, C.e x = true → PT X x (rT X.K fa xa W A.t)
  w : ∀ op vs p, C.e (.BoolOp op vs p) = true → PW X (.BoolOp op vs p) (rT X.K fa xa W A.t)
  b : ∀ x, C.e x = true → PE X x (rB X.K fa xa W A.b)
  ok : ∀ x, C.e x = true → okE x = true
  es : ∀ xs, C.es xs = true → PA X xs (rBs X.K fa xa W A.bs)
  i : ∀ tg x, C.i x = true → PI X tg x (rI X.K fa xa W A.i) ∧ okE x = true
  o : ∀ x, C.o x = true → PO X x (rO X.K fa xa W A.o)
  c : ∀ xs, C.c xs = true → PTs X xs (rT X.K fa xa W A.t)
section
variable {G : Cfg} {fa xa : Nat → Addr} {call : Nat → List Sl → FR} {X : Cx} {W : WX}
theorem starE {x : Expr} {xs : List Expr} {env : Env} (h : okE x = true) : starEach (x :: xs) env = (false, eval x env) :: starEach xs env := by
  cases x <;> first
    | rfl
    | cases h
theorem plainIx_of {x : Expr} (h : okE x = true) : PlainIx x := fun o i => by
  cases x <;> first
    | rfl
    | cases h
theorem nomark_of {x : Expr} {op : CmpOp} (h : okE x = true) : behindInMarks op x = false := by
  cases x <;> first
    | rfl
    | cases h
theorem folded_of {x : Expr} {env : Env} (h : okE x = true) (v : Value) : foldedSetIterable x env v = pure v := by
  cases x <;> first
    | rfl
    | cases h
theorem plainT_of {x : Expr} {env : Env} (h : plainT x = true) (wh : Sem Value) : isTrue x env wh = (do let v ← wh; standAt x.pos; holding [v] (truthy v)) := by
  cases x <;> first
    | rfl
    | cases h
    | (rename_i op a p; cases op <;> first | rfl | cases h)
theorem base_of {x : Expr} {env : Env} {at_ : Str} (h : okRecv x = true) : attributeBase x at_ env (eval x env) = eval x env := by
  cases x <;> try rfl
  rename_i f as ks p
  cases as with
  | nil => cases h
  | cons a as => cases f <;> rfl
theorem items_walk {K : PySem.W.Frag} {F : Hp} {d : D} {ds : List D} {v : V} (h : itemsD d = some ds) (q : DR K fa F d v) : ∃ J, WalkD K fa J ds F ∧
    ((∃ a, v = .ref a ∧ J = Itl K a ∧ ∃ xs, ∀ H, Le F H → SqL K H a xs) ∨ (∃ a, v = .ref a ∧ J = Itt K a ∧ ∃ xs, ∀ H, Le F H → SqT K H a xs) ∨ ∃ x, v = .str x ∧ J = Its x) := by
  cases d <;> simp only [itemsD] at h <;> try (cases h)
  case str s =>
    simp only [DR] at q
    subst q
    refine ⟨Its ⟨s.toArray⟩, ⟨fun _ => True, _, by rw [List.length_map]; exact walk_str, fun _ _ => True.intro, fun i H x H' B F1 e σ hi l r y => ?_⟩, .inr (.inr ⟨_, rfl, rfl⟩)⟩
    obtain ⟨e1, c, hc, e2⟩ := y
    subst e1 e2
    have hc' : s[i]? = some c := by simpa using hc
    refine ⟨F1, .str [c], ?_, Le.refl F1, r, by simp only [DR]⟩
    rw [List.getElem?_map, hc'] <;> rfl
  case lst =>
    simp only [DR] at q
    obtain ⟨a, vs, e1, h1, h2⟩ := q
    subst e1
    refine ⟨Itl K a, ⟨_, _, by rw [DRs.length h2]; exact walk_list (xs := vs), fun H l => SqL.of (l _ _ h1), fun i H x H' B F1 e σ hi l r y => ?_⟩, .inl ⟨a, rfl, rfl, vs, fun H l => SqL.of (l _ _ h1)⟩⟩
    obtain ⟨e1, hx⟩ := y
    subst e1
    obtain ⟨d, g1, g2⟩ := DRs.getV h2 hx
    exact ⟨F1, d, g1, Le.refl F1, r, DR.le l _ _ g2⟩
  case tup =>
    simp only [DR] at q
    obtain ⟨a, vs, e1, h1, h2⟩ := q
    subst e1
    refine ⟨Itt K a, ⟨_, _, by rw [DRs.length h2]; exact walk_tup (xs := vs), fun H l => SqT.le l h1, fun i H x H' B F1 e σ hi l r y => ?_⟩, .inr (.inl ⟨a, rfl, rfl, vs, fun H l => SqT.le l h1⟩)⟩
    obtain ⟨e1, hx⟩ := y
    subst e1
    obtain ⟨d, g1, g2⟩ := DRs.getV h2 hx
    exact ⟨F1, d, g1, Le.refl F1, r, DR.le l _ _ g2⟩
  case scr ns =>
    simp only [DR] at q
    obtain ⟨a, e1, h1⟩ := q
    subst e1
    refine ⟨Itl K a, ⟨_, _, by rw [List.length_map, ← List.length_map (f := V.int)]; exact walk_list (xs := ns.map V.int), fun H l => SqL.le l h1, fun i H x H' B F1 e σ hi l r y => ?_⟩, .inl ⟨a, rfl, rfl, _, fun H l => SqL.le l h1⟩⟩
    obtain ⟨e1, hx⟩ := y
    subst e1
    obtain ⟨d, g1, g2⟩ := DRs.getV (DRs.ofInts (K := K) (fa := fa) (F := F1) ns) hx
    exact ⟨F1, d, g1, Le.refl F1, r, g2⟩
/-- from the value, the test and what is borrowed -/
theorem Snd.ofETB {f : Ev → R (D × Bool)} {t : Ev → R Bool} {b : Ev → R Bor} {g : Expr → Bool} (h : ∀ x, okE x = true → g x = true → PE X x (rF X.K fa xa W f)) (ht : ∀ x, okE x = true → g x = true → PT X x (rT X.K fa xa W t))
    (hw : ∀ op vs p, g (.BoolOp op vs p) = true → PW X (.BoolOp op vs p) (rT X.K fa xa W t)) (hb : ∀ x, okE x = true → g x = true → PE X x (rB X.K fa xa W b)) : Snd G fa xa call X W { ofF f with t := t, b := b } (eF g) := by
  have ba : ∀ {x : Expr}, (okE x && g x) = true → okE x = true ∧ g x = true := fun h => Bool.and_eq_true_iff.mp h
  refine ⟨fun x hx => h x (ba hx).1 (ba hx).2, fun x hx => ht x (ba hx).1 (ba hx).2, fun op vs p hx => hw op vs p (ba (x := .BoolOp op vs p) hx).2, fun x hx => hb x (ba hx).1 (ba hx).2, fun x hx => (ba hx).1, fun xs hx => (nomatch hx), fun tg x hx => ⟨?_, (ba hx).1⟩, fun x hx => ?_, fun xs hx => ?_⟩
  · have hx' := h x (ba hx).1 (ba hx).2
    refine PI.imp (PI.or (pi_list hx') (PI.or (pi_tup hx') (pi_str hx'))) fun σ H RR ⟨B, F, e, r, q⟩ => ?_
    cases hf : f e with
    | st =>
      have q' : XP X.K fa xa W B F σ (((ofF f).i) e) _ := q
      simp only [ofF, hf, R.bind] at q'
      exact q'.elim
    | er c e1 =>
      have q' : XP X.K fa xa W B F σ (((ofF f).i) e) _ := q
      simp only [ofF, hf, R.bind] at q'
      refine .inl ⟨B, F, e, r, ?_⟩
      rw [hf]
      exact q'
    | ok y e1 =>
      have q' : XP X.K fa xa W B F σ (((ofF f).i) e) _ := q
      simp only [ofF, hf, R.bind] at q'
      obtain ⟨ds, hds, q2⟩ := q'.of
      have step : ∀ {P : V → Hp → Prop}, (∀ F1 H1 v, Le F F1 → SR X.K fa B F1 e1 σ H1 → DR X.K fa F1 y.1 v → P v H1) → rF X.K fa xa W f σ H P := fun {P} hP => by
        refine ⟨B, F, e, r, ?_⟩
        rw [hf]
        intro F1 H1 v l1 r1 fv
        obtain ⟨F2, l2, r2, d2⟩ := r1.freeze fv
        exact hP F2 H1 v (l1.trans l2) r2 d2
      cases hy : y.1 with
      | str s =>
        refine .inr (.inr (step fun F1 H1 v l1 r1 d1 => ?_))
        rw [hy] at hds d1
        obtain ⟨J, wd, wh⟩ := items_walk hds d1
        rcases wh with ⟨a, e1, _⟩ | ⟨a, e1, _⟩ | ⟨x, e1, eJ⟩
        · simp only [DR] at d1
          rw [d1] at e1
          cases e1
        · simp only [DR] at d1
          rw [d1] at e1
          cases e1
        · subst eJ
          exact ⟨x, e1, q2 F1 H1 _ l1 r1 wd⟩
      | lst ys =>
        refine .inl (step fun F1 H1 v l1 r1 d1 => ?_)
        rw [hy] at hds d1
        simp only [DR] at d1
        have d1' := d1
        obtain ⟨a, vs, ev, h1, h2⟩ := d1
        refine ⟨a, ev, ⟨vs, SqL.of (r1.sub _ _ h1)⟩, q2 F1 H1 _ l1 r1 ?_⟩
        have e3 : ds = ys := (Option.some.inj hds).symm
        subst e3
        refine ⟨_, _, by rw [DRs.length h2]; exact walk_list (xs := vs), fun H l => SqL.of (l _ _ h1), fun i H x H' B F1 e σ hi l r y => ?_⟩
        obtain ⟨e1, hx⟩ := y
        subst e1
        obtain ⟨d, g1, g2⟩ := DRs.getV h2 hx
        exact ⟨F1, d, g1, Le.refl F1, r, DR.le l _ _ g2⟩
      | scr ns =>
        refine .inl (step fun F1 H1 v l1 r1 d1 => ?_)
        rw [hy] at hds d1
        simp only [DR] at d1
        obtain ⟨a, ev, h1⟩ := d1
        refine ⟨a, ev, ⟨_, SqL.le r1.sub h1⟩, q2 F1 H1 _ l1 r1 ?_⟩
        have e3 : ds = ns.map .int := (Option.some.inj hds).symm
        subst e3
        refine ⟨_, _, by rw [List.length_map, ← List.length_map (f := V.int)]; exact walk_list (xs := ns.map V.int), fun H l => SqL.le l h1, fun i H x H' B F1 e σ hi l r y => ?_⟩
        obtain ⟨e1, hx⟩ := y
        subst e1
        obtain ⟨d, g1, g2⟩ := DRs.getV (DRs.ofInts (K := X.K) (fa := fa) (F := F1) ns) hx
        exact ⟨F1, d, g1, Le.refl F1, r, g2⟩
      | tup ys =>
        refine .inr (.inl (step fun F1 H1 v l1 r1 d1 => ?_))
        rw [hy] at hds d1
        simp only [DR] at d1
        obtain ⟨a, vs, ev, h1, h2⟩ := d1
        refine ⟨a, ev, ⟨vs, SqT.le r1.sub h1⟩, q2 F1 H1 _ l1 r1 ?_⟩
        have e3 : ds = ys := (Option.some.inj hds).symm
        subst e3
        refine ⟨_, _, by rw [DRs.length h2]; exact walk_tup (xs := vs), fun H l => SqT.le l h1, fun i H x H' B F1 e σ hi l r y => ?_⟩
        obtain ⟨e1, hx⟩ := y
        subst e1
        obtain ⟨d, g1, g2⟩ := DRs.getV h2 hx
        exact ⟨F1, d, g1, Le.refl F1, r, DR.le l _ _ g2⟩
      | _ =>
        rw [hy] at hds
        cases hds
  · cases x with
    | none => cases hx
    | some x =>
      have hx' : (okE x && g x) = true := hx
      refine PO.imp (po_some (h x (ba hx').1 (ba hx').2)) fun σ H Q ⟨B, F, e, r, q⟩ => ⟨B, F, e, r, (q.run (Le.refl F)).imp fun y e1 hye q1 F1 H1 v l1 r1 fv => ?_⟩
      obtain ⟨d, fr⟩ := y
      cases d <;> try (exact q1.elim)
      rename_i i
      obtain ⟨F2, l2, r2, d2⟩ := r1.freeze fv
      simp only [DR] at d2
      exact ⟨i, d2, q1 F2 H1 (l1.trans l2) r2⟩
  · match xs, hx with
    | [x], hx => exact pts_one (ht x (ba hx).1 (ba hx).2)
theorem freezeB {f : Ev → R (D × Bool)} {x : Expr} (h : PE X x (rF X.K fa xa W f)) : PE X x (rB X.K fa xa W (ofF f).b) :=
  PE.imp h fun σ H Q ⟨B, F, e, r, q⟩ => ⟨B, F, e, r, (q.run (Le.refl F)).imp fun y e1 _ q1 F1 H1 v l1 r1 fv => by
    obtain ⟨F2, l2, r2, d2⟩ := r1.freeze fv
    exact q1 F2 H1 v (l1.trans l2) r2 d2⟩
theorem truthT {f : Ev → R (D × Bool)} {x : Expr} (h : PE X x (rF X.K fa xa W f)) (hp : plainT x = true) : PT X x (rT X.K fa xa W (ofF f).t) :=
  PT.imp (pt_truth h (plainT_of hp)) fun σ H Q ⟨B, F, e, r, q⟩ => ⟨B, F, e, r, (q.run (Le.refl F)).imp fun y e1 _ q1 F1 H1 v l1 r1 fv => by
    obtain ⟨k, hk, q2⟩ := q1.of
    obtain ⟨F2, l2, r2, d2⟩ := r1.freeze fv
    exact ⟨k, tru_of r2.sub hk (DR.cr r2.sub d2), q2 F2 H1 (l1.trans l2) r2⟩⟩
/-- where the value alone is told -/
theorem Snd.ofPE {f : Ev → R (D × Bool)} {g : Expr → Bool} (h : ∀ x, okE x = true → g x = true → PE X x (rF X.K fa xa W f)) (hp : ∀ x, okE x = true → g x = true → plainT x = true) : Snd G fa xa call X W (ofF f) (eF g) :=
  Snd.ofETB (t := (ofF f).t) (b := (ofF f).b) h (fun x h1 h2 => truthT (h x h1 h2) (hp x h1 h2)) (fun op vs p hx => by have z := hp _ rfl hx; cases z) fun x h1 h2 => freezeB (h x h1 h2)
/-- where a test is its own -/
theorem Snd.ofET {f : Ev → R (D × Bool)} {t : Ev → R Bool} {g : Expr → Bool} (h : ∀ x, okE x = true → g x = true → PE X x (rF X.K fa xa W f)) (ht : ∀ x, okE x = true → g x = true → PT X x (rT X.K fa xa W t))
    (hw : ∀ op vs p, g (.BoolOp op vs p) = true → PW X (.BoolOp op vs p) (rT X.K fa xa W t)) : Snd G fa xa call X W { ofF f with t := t } (eF g) :=
  Snd.ofETB (b := (ofF f).b) h ht hw fun x h1 h2 => freezeB (h x h1 h2)
theorem Snd.no : Snd G fa xa call X W noR eNo := ⟨fun _ h => (nomatch h), fun _ h => (nomatch h), fun _ _ _ h => (nomatch h), fun _ h => (nomatch h), fun _ h => (nomatch h), fun _ h => (nomatch h), fun _ _ h => (nomatch h), fun _ h => (nomatch h), fun _ h => (nomatch h)⟩
end
end EV
/-! Calls of the program's own defs. -/
namespace EV
open PySem L2
section
variable {K : PySem.W.Frag} {fa xa : Nat → Addr} {W : WX} {B : Bs} {F F' H H' : Hp} {e : Ev} {σ : L2.St}
/-- what may be given to slot i, which holds it -/
theorem SR.give (r : SR K fa B F e σ H) {i : Nat} {s : Sl} {v : V} (hv : σ[i]? = some (some v)) (h : SlR K fa F H s (some v)) (ho : ∀ d a, s = .ow d → v = .ref a → (B.H a = none ∨ a ∈ B.IO) ∧ a ∉ owns e σ) : SR K fa B F (e.set i s) σ H := by
  have es : σ.set i (some v) = σ := by
    obtain ⟨h1, h2⟩ := List.getElem?_eq_some_iff.mp hv
    rw [← h2]
    exact List.set_getElem_self h1
  have z := r.asgG (i := i) (s := s) (v := v) (fun p hp => by rw [es]; exact r.ios p hp) h fun d hd => by
    subst hd
    obtain ⟨_, a, o, h1, _⟩ := h
    have ea : v = .ref a := Option.some.inj h1
    obtain ⟨g1, g2⟩ := ho d a rfl ea
    exact ⟨a, ea, g1, fun j d' q1 q2 => g2 (mem_owns.mpr ⟨j, d', q1, q2⟩)⟩
  rw [es] at z
  exact z
theorem owns_set_no {i : Nat} {a : Addr} (h : a ∈ owns (e.set i .no) σ) : a ∈ owns e σ ∧ σ[i]? ≠ some (some (.ref a)) ∨ a ∈ owns e σ ∧ ∃ j, j ≠ i ∧ ∃ d, e[j]? = some (.ow d) ∧ σ[j]? = some (some (.ref a)) := by
  obtain ⟨j, d, q1, q2⟩ := mem_owns.mp h
  by_cases hj : i = j
  · subst hj
    by_cases hl : i < e.length
    · rw [List.getElem?_set_self hl] at q1
      cases q1
    · rw [List.getElem?_eq_none (by simpa using hl)] at q1
      cases q1
  · rw [List.getElem?_set_ne hj] at q1
    exact .inr ⟨mem_owns.mpr ⟨j, d, q1, q2⟩, j, fun z => hj z.symm, d, q1, q2⟩
theorem owns_drop {i : Nat} {a : Addr} (h : a ∈ owns (e.set i .no) σ) : a ∈ owns e σ := (owns_set_no h).elim And.left And.left
theorem owns_frz {i : Nat} {a : Addr} (h : a ∈ owns (e.set i (e.getD i .no).frz) σ) : a ∈ owns e σ := by
  obtain ⟨j, d, q1, q2⟩ := mem_owns.mp h
  by_cases hj : i = j
  · subst hj
    by_cases hl : i < e.length
    · rw [List.getElem?_set_self hl] at q1
      cases z : e.getD i .no <;> rw [z] at q1 <;> cases q1
    · rw [List.getElem?_eq_none (by simpa using hl)] at q1
      cases q1
  · rw [List.getElem?_set_ne hj] at q1
    exact mem_owns.mpr ⟨j, d, q1, q2⟩
theorem owns_frzB {b : Bor} {a : Addr} (h : a ∈ owns (b.frz e) σ) : a ∈ owns e σ := by
  cases b with
  | dat d => exact h
  | slot i => exact owns_frz h
/-- what freezing a slot adds -/
theorem SR.frzB' (r : SR K fa B F e σ H) {b : Bor} {v : V} {d : D} (h : BV K fa F σ b v) (q : b.res e = some d) :
    ∃ F', Le F F' ∧ SR K fa B F' (b.frz e) σ H ∧ DR K fa F' d v ∧ ∀ a o, F' a = some o → F a = none → a ∈ owns e σ ∧ a ∉ owns (b.frz e) σ := by
  obtain ⟨F', l, r', dr, _⟩ := r.frzB h q
  cases b with
  | dat d' =>
    have e1 : d' = d := Option.some.inj q
    subst e1
    exact ⟨F, Le.refl F, r, h, fun a o h1 h2 => by rw [h2] at h1; cases h1⟩
  | slot i =>
    have q' : (e.getD i .no).get? = some d := q
    have h' : σ[i]? = some (some v) := h
    cases z : e.getD i .no with
    | no =>
      rw [z] at q'
      cases q'
    | sh d' =>
      rw [z] at q'
      cases q'
      obtain ⟨w, h1, v', h2, h3⟩ := r.at (getD_sh z)
      rw [h1] at h'
      cases h'
      cases h2
      have r2 := r.put h1 h3
      refine ⟨F, Le.refl F, ?_, h3, fun a o g1 g2 => by rw [g2] at g1; cases g1⟩
      show SR K fa B F (e.set i (e.getD i .no).frz) σ H
      rw [z]
      exact r2
    | ow d' =>
      rw [z] at q'
      cases q'
      have ho := getD_ow z
      obtain ⟨a, o, h1, h2, h3, h4, h5, hm⟩ := r.ow ho
      have hl : i < e.length := (List.getElem?_eq_some_iff.mp ho).1
      rw [h1] at h'
      cases h'
      have no : ∀ (j : Nat) (d2 : D), (e.set i .no)[j]? = some (.ow d2) → σ[j]? ≠ some (some (.ref a)) := fun j d2 q1 q2 => by
        by_cases hj : i = j
        · subst hj
          rw [List.getElem?_set_self hl] at q1
          cases q1
        · rw [List.getElem?_set_ne hj] at q1
          exact hj (r.inj i j _ d2 a ho q1 h1 q2)
      have r1 := (r.drop i).more h2 h4 h5 no
      have dr' : DR K fa (upd F a o) _ (.ref a) := OR.dr upd_same (h3.le (Le.upd h4))
      have r2 := r1.put h1 dr'
      rw [List.set_set] at r2
      refine ⟨upd F a o, Le.upd h4, ?_, dr', fun b u g1 g2 => ?_⟩
      · show SR K fa B (upd F a o) (e.set i (e.getD i .no).frz) σ H
        rw [z]
        exact r2
      · have eb : b = a := by
          by_cases hb : b = a
          · exact hb
          · rw [upd_ne hb, g2] at g1
            cases g1
        subst eb
        refine ⟨mem_owns.mpr ⟨i, _, ho, h1⟩, fun hm => ?_⟩
        obtain ⟨j, d2, q1, q2⟩ := mem_owns.mp hm
        have q1' : (e.set i (e.getD i .no).frz)[j]? = some (.ow d2) := q1
        rw [z] at q1'
        by_cases hj : i = j
        · subst hj
          rw [List.getElem?_set_self hl] at q1'
          cases q1'
        · rw [List.getElem?_set_ne hj] at q1'
          exact hj (r.inj i j _ d2 b ho q1' h1 q2)
/-- the arguments as they are handed on -/
structure Args (K : PySem.W.Frag) (fa : Nat → Addr) (F H : Hp) (e ec : Ev) (σ : L2.St) (io : List Bool) (sls : List Sl) (vs : List V) : Prop where
  len : sls.length = vs.length
  sl : ∀ (j : Nat) (s : Sl) (v : V), sls[j]? = some s → vs[j]? = some v → SlR K fa F H s (some v)
  own : ∀ (j : Nat) (d : D) (a : Addr), sls[j]? = some (.ow d) → vs[j]? = some (.ref a) → a ∈ owns e σ ∧ a ∉ owns ec σ ∧ ioAt io j = true
  inj : ∀ (j k : Nat) (d d' : D) (a : Addr), sls[j]? = some (.ow d) → sls[k]? = some (.ow d') → vs[j]? = some (.ref a) → vs[k]? = some (.ref a) → j = k
  sub : ∀ a, a ∈ owns ec σ → a ∈ owns e σ
theorem Args.cons {e0 ec : Ev} {io : List Bool} {sls : List Sl} {vs : List V} {s : Sl} {v : V} {b : Bool} (h : Args K fa F H e ec σ io sls vs) (hs : SlR K fa F H s (some v))
    (sub : ∀ a, a ∈ owns e σ → a ∈ owns e0 σ) (ho : ∀ d a, s = .ow d → v = .ref a → a ∈ owns e0 σ ∧ a ∉ owns e σ ∧ b = true) : Args K fa F H e0 ec σ (b :: io) (s :: sls) (v :: vs) where
  len := by simp [h.len]
  sl := fun j s' v' q1 q2 => by
    cases j with
    | zero =>
      cases q1
      cases q2
      exact hs
    | succ j => exact h.sl j s' v' q1 q2
  own := fun j d a q1 q2 => by
    cases j with
    | zero =>
      have e1 : s = .ow d := Option.some.inj q1
      have e2 : v = .ref a := Option.some.inj q2
      obtain ⟨g1, g2, g3⟩ := ho d a e1 e2
      exact ⟨g1, fun z => g2 (h.sub a z), by subst g3; rfl⟩
    | succ j =>
      obtain ⟨g1, g2, g3⟩ := h.own j d a q1 q2
      exact ⟨sub a g1, g2, g3⟩
  inj := fun j k d d' a q1 q2 q3 q4 => by
    cases j with
    | zero =>
      cases k with
      | zero => rfl
      | succ k =>
        have e1 : s = .ow d := Option.some.inj q1
        have e2 : v = .ref a := Option.some.inj q3
        exact absurd (h.own k d' a q2 q4).1 (ho d a e1 e2).2.1
    | succ j =>
      cases k with
      | zero =>
        have e1 : s = .ow d' := Option.some.inj q2
        have e2 : v = .ref a := Option.some.inj q4
        exact absurd (h.own j d a q1 q3).1 (ho d' a e1 e2).2.1
      | succ k => exact congrArg (· + 1) (h.inj j k d d' a q1 q2 q3 q4)
  sub := fun a z => sub a (h.sub a z)
theorem ioAt_nil (j : Nat) : ioAt [] j = false := by
  unfold ioAt
  rw [List.getD_eq_getElem?_getD]
  simp
theorem mk_ok : ∀ {bs : List Bor} {io : List Bool} {F : Hp} {e ec : Ev} {vs : List V} {sls : List Sl}, SR K fa B F e σ H → BVs K fa F σ bs vs → mkArgs e io bs = some (sls, ec) →
    ∃ Fc, Le F Fc ∧ SR K fa B Fc ec σ H ∧ Args K fa Fc H e ec σ io sls vs ∧ ∀ a o, Fc a = some o → F a = none → a ∈ owns e σ
  | [], io, F, e, ec, vs, sls, r, h, q => by
    simp only [mkArgs, Option.some.injEq, Prod.mk.injEq] at q
    obtain ⟨q1, q2⟩ := q
    simp only [BVs] at h
    subst q1 q2 h
    exact ⟨F, Le.refl F, r, ⟨rfl, fun j s v z => by simp at z, fun j d a z => by simp at z, fun j k d d' a z => by simp at z, fun a z => z⟩, fun a o h1 h2 => by rw [h2] at h1; cases h1⟩
  | b :: bs, io, F, e, ec, vs, sls, r, h, q => by
    simp only [BVs] at h
    obtain ⟨v, rr, e1, h1, h2⟩ := h
    subst e1
    -- the argument is frozen
    have frz : ∀ {io' : List Bool} {io0 : List Bool} {d : D}, (∀ j, ioAt io0 j = true → True) → b.res e = some d → ∀ {z : List Sl × Ev}, mkArgs (b.frz e) io' bs = some z → sls = .sh d :: z.1 → ec = z.2 →
        ∃ Fc, Le F Fc ∧ SR K fa B Fc ec σ H ∧ Args K fa Fc H e ec σ (false :: io') sls (v :: rr) ∧ ∀ a o, Fc a = some o → F a = none → a ∈ owns e σ := fun {io' io0 d} _ hd {z} hz es ee => by
      subst es ee
      obtain ⟨F1, l1, r1, d1, new1⟩ := r.frzB' h1 hd
      obtain ⟨Fc, l2, r2, A, new2⟩ := mk_ok (bs := bs) r1 (BVs.le l1 h2) hz
      refine ⟨Fc, l1.trans l2, r2, A.cons (b := false) ⟨v, rfl, DR.le l2 _ _ d1⟩ (fun a z => owns_frzB z) (fun d a z => nomatch z), fun a o g1 g2 => ?_⟩
      cases g3 : F1 a with
      | some o' => exact (new1 a o' g3 g2).1
      | none => exact owns_frzB (new2 a o g1 g3)
    match io, q with
    | true :: io, q =>
      cases b with
      | dat d => simp [mkArgs] at q
      | slot i =>
        simp only [mkArgs] at q
        split at q
        · rename_i d hd
          cases hz : mkArgs (e.set i .no) io bs with
          | none =>
            rw [hz] at q
            cases q
          | some z =>
            rw [hz] at q
            cases q
            have ho := getD_ow hd
            obtain ⟨a, o, g1, g2, g3, g4, g5, hm⟩ := r.ow ho
            have hl : i < e.length := (List.getElem?_eq_some_iff.mp ho).1
            have hv : σ[i]? = some (some v) := h1
            have ev : v = .ref a := by
              rw [g1] at hv
              exact (Option.some.inj (Option.some.inj hv)).symm
            subst ev
            have na : a ∉ owns (e.set i .no) σ := fun hm => by
              obtain ⟨j, d2, q1, q2⟩ := mem_owns.mp hm
              by_cases hj : i = j
              · subst hj
                rw [List.getElem?_set_self hl] at q1
                cases q1
              · rw [List.getElem?_set_ne hj] at q1
                exact hj (r.inj i j d d2 a ho q1 g1 q2)
            obtain ⟨Fc, l2, r2, A, new2⟩ := mk_ok (bs := bs) (r.drop i) h2 hz
            have fc : Fc a = none := by
              cases y : Fc a with
              | none => rfl
              | some o' => exact absurd (new2 a o' y g4) na
            refine ⟨Fc, l2, r2, A.cons (b := true) ⟨hm, a, o, rfl, g2, OR.le l2 g3, fc⟩ (fun b z => owns_drop z) (fun d' b z1 z2 => ?_), fun b o g1 g2 => owns_drop (new2 b o g1 g2)⟩
            cases z2
            exact ⟨mem_owns.mpr ⟨i, d, ho, g1⟩, na, rfl⟩
        · cases q
    | false :: io, q =>
      simp only [mkArgs] at q
      split at q
      · rename_i d hd
        cases hz : mkArgs (b.frz e) io bs with
        | none =>
          rw [hz] at q
          cases q
        | some z =>
          rw [hz] at q
          cases q
          exact frz (io0 := []) (fun _ _ => True.intro) hd hz rfl rfl
      · cases q
    | [], q =>
      simp only [mkArgs] at q
      split at q
      · rename_i d hd
        cases hz : mkArgs (b.frz e) [] bs with
        | none =>
          rw [hz] at q
          cases q
        | some z =>
          rw [hz] at q
          cases q
          obtain ⟨Fc, l, r2, A, new⟩ := frz (io0 := []) (fun _ _ => True.intro) hd hz rfl rfl
          refine ⟨Fc, l, r2, ⟨A.len, A.sl, fun j d a q1 q2 => ?_, A.inj, A.sub⟩, new⟩
          obtain ⟨g1, g2, g3⟩ := A.own j d a q1 q2
          refine ⟨g1, g2, ?_⟩
          cases j with
          | zero => cases g3
          | succ j =>
            have g4 : ioAt [] j = true := g3
            rw [ioAt_nil] at g4
            cases g4
      · cases q
/-- the slots that are handed on, as the callee sees them -/
def iosOf (sls : List Sl) (vs : List V) : List (Nat × Addr) := (List.range sls.length).filterMap fun (j : Nat) => match sls[j]?, vs[j]? with
  | some (Sl.ow _), some (V.ref a) => some (j, a)
  | _, _ => none
theorem mem_iosOf {sls : List Sl} {vs : List V} {p : Nat × Addr} : p ∈ iosOf sls vs ↔ ∃ d, sls[p.1]? = some (.ow d) ∧ vs[p.1]? = some (.ref p.2) := by
  unfold iosOf
  rw [List.mem_filterMap]
  constructor
  · rintro ⟨j, _, h⟩
    split at h
    · rename_i d a q1 q2
      cases h
      exact ⟨d, q1, q2⟩
    · cases h
  · rintro ⟨d, q1, q2⟩
    refine ⟨p.1, List.mem_range.mpr (List.getElem?_eq_some_iff.mp q1).1, ?_⟩
    rw [q1, q2]
/-- where a callee begins -/
def callB (F H : Hp) (sls : List Sl) (vs : List V) : Bs := ⟨F, H, (iosOf sls vs).map (·.2), iosOf sls vs⟩
theorem start_get {N : List Str} {vs : List V} {j : Nat} {w : Option V} (h : (L2.start N vs)[j]? = some w) : (∃ v, vs[j]? = some v ∧ w = some v) ∨ (vs.length ≤ j ∧ w = none) := by
  unfold L2.start at h
  by_cases c : j < vs.length
  · rw [List.getElem?_append_left (by simpa using c), List.getElem?_map, List.getElem?_eq_getElem c] at h
    exact .inl ⟨vs[j], List.getElem?_eq_getElem c, (Option.some.inj h).symm⟩
  · rw [List.getElem?_append_right (by simpa using c)] at h
    have z := List.mem_of_getElem? h
    exact .inr ⟨Nat.le_of_not_lt c, (List.mem_replicate.mp z).2⟩
theorem SR.enter {fi : Fn} {ec : Ev} {io : List Bool} {sls : List Sl} {vs : List V} (l : Le F H) (A : Args K fa F H e ec σ io sls vs) (hn : vs.length = fi.np) (hN : fi.np ≤ fi.N.length) :
    SR K fa (callB F H sls vs) F (frame fi sls) (L2.start fi.N vs) H := by
  have fg : ∀ {j : Nat} {s : Sl}, (frame fi sls)[j]? = some s → sls[j]? = some s ∨ s = .no := fun {j s} h => by
    unfold frame at h
    by_cases c : j < sls.length
    · rw [List.getElem?_append_left c] at h
      exact .inl h
    · rw [List.getElem?_append_right (Nat.le_of_not_lt c)] at h
      exact .inr (List.mem_replicate.mp (List.mem_of_getElem? h)).2
  refine ⟨l, Le.refl F, fun a o q1 q2 => ?_, fun _ _ q _ => q, fun a h => ?_, fun p hp => ?_, ?_, fun j s w q1 q2 => ?_, fun j d a q1 q2 => ?_, fun j k d d' a q1 q2 q3 q4 => ?_⟩
  · have q2' : F a = none := q2
    rw [q2'] at q1
    cases q1
  · obtain ⟨p, hp, rfl⟩ := List.mem_map.mp h
    obtain ⟨d, q1, q2⟩ := mem_iosOf.mp hp
    obtain ⟨_, a, o, g1, g2, _⟩ := A.sl p.1 _ _ q1 q2
    cases g1
    exact ⟨o, g2⟩
  · obtain ⟨d, q1, q2⟩ := mem_iosOf.mp hp
    unfold L2.start
    rw [List.getElem?_append_left (by rw [List.length_map]; exact (List.getElem?_eq_some_iff.mp q2).1), List.getElem?_map, q2] <;> rfl
  · unfold frame L2.start
    simp only [List.length_append, List.length_replicate, List.length_map, A.len]
  · rcases fg q1 with g | g
    · rcases start_get q2 with ⟨v, g2, g3⟩ | ⟨g2, g3⟩
      · subst g3
        exact A.sl j s v g g2
      · have := (List.getElem?_eq_some_iff.mp g).1
        rw [A.len] at this
        omega
    · subst g
      exact True.intro
  · rcases fg q1 with g | g
    · rcases start_get q2 with ⟨v, g2, g3⟩ | ⟨g2, g3⟩
      · cases g3
        exact .inr (List.mem_map.mpr ⟨(j, a), mem_iosOf.mpr ⟨d, g, g2⟩, rfl⟩)
      · cases g3
    · cases g
  · rcases fg q1 with g | g
    · rcases fg q2 with g' | g'
      · rcases start_get q3 with ⟨v, g2, g3⟩ | ⟨g2, g3⟩
        · rcases start_get q4 with ⟨v', g4, g5⟩ | ⟨g4, g5⟩
          · cases g3
            cases g5
            exact A.inj j k d d' a g g' g2 g4
          · cases g5
        · cases g3
      · cases g'
    · cases g
/-- behind a call, without what was handed on -/
theorem SR.leave {ec e' : Ev} {σ' : L2.St} {Fc : Hp} {io : List Bool} {sls : List Sl} {vs : List V} (r0 : SR K fa B F e σ H) (r : SR K fa B Fc ec σ H) (A : Args K fa Fc H e ec σ io sls vs) (r' : SR K fa (callB Fc H sls vs) F' e' σ' H') :
    SR K fa B F' ec σ H' := by
  have io_own : ∀ a, a ∈ (callB Fc H sls vs).IO → a ∈ owns e σ ∧ a ∉ owns ec σ := fun a h => by
    obtain ⟨p, hp, rfl⟩ := List.mem_map.mp h
    obtain ⟨d, q1, q2⟩ := mem_iosOf.mp hp
    obtain ⟨g1, g2, _⟩ := A.own p.1 d p.2 q1 q2
    exact ⟨g1, g2⟩
  have up : ∀ a, a ∈ owns e σ → B.H a = none ∨ a ∈ B.IO := fun a h => by
    obtain ⟨i, d, q1, q2⟩ := mem_owns.mp h
    exact r0.own i d a q1 q2
  have kp : ∀ a o, H a = some o → a ∉ (callB Fc H sls vs).IO → H' a = some o := fun a o q z => r'.keep a o q z
  have ow : ∀ (i : Nat) (d : D) (a : Addr), ec[i]? = some (.ow d) → σ[i]? = some (some (.ref a)) → a ∉ (callB Fc H sls vs).IO := fun i d a q1 q2 h => (io_own a h).2 (mem_owns.mpr ⟨i, d, q1, q2⟩)
  refine ⟨r'.sub, r.mono.trans r'.mono, fun a o q1 q2 => ?_, fun a o q z => ?_, fun a z => ?_, r.ios, r.len, fun i s w q1 q2 => ?_, r.own, r.inj⟩
  · cases q : Fc a with
    | some o' => exact r.fresh a o' q q2
    | none =>
      rcases r'.fresh a o q1 q with z | z
      · exact .inl (r.none_of z).2.1
      · exact up a (io_own a z).1
  · refine kp a o (r.keep a o q z) fun y => ?_
    rcases up a (io_own a y).1 with y | y
    · rw [y] at q
      cases q
    · exact z y
  · obtain ⟨o, q⟩ := r.io a z
    by_cases hm : a ∈ (callB Fc H sls vs).IO
    · exact r'.io a hm
    · exact ⟨o, kp a o q hm⟩
  · refine (r.sl i s w q1 q2).le r'.mono (fun d a o es ew q => ?_) fun d a es ew => ?_
    · subst es ew
      exact kp a o q (ow i d a q1 q2)
    · subst es ew
      obtain ⟨_, a', o, g1, g2, _, g4⟩ := r.sl i _ _ q1 q2
      cases g1
      cases y : F' a with
      | none => rfl
      | some o' =>
        rcases r'.fresh a o' y g4 with z | z
        · have z' : H a = none := z
          rw [g2] at z'
          cases z'
        · exact absurd z (ow i d a q1 q2)
/-- and what was handed on comes back -/
theorem put_ok {e' : Ev} {σ' : L2.St} {B' : Bs} {up : Addr → Prop} (hup : ∀ a, up a → B.H a = none ∨ a ∈ B.IO) :
    ∀ {bs : List Bor} {io : List Bool} {ec : Ev} {j : Nat} {vs : List V}, SR K fa B' F' e' σ' H' → SR K fa B F' ec σ H' → BVs K fa F' σ bs vs →
      (∀ (m : Nat), ioAt io m = true → ∀ v, vs[m]? = some v → ∃ a, v = .ref a ∧ up a ∧ a ∉ owns ec σ ∧ σ'[j + m]? = some (some (.ref a))) →
      (∀ (m n : Nat) (a : Addr), ioAt io m = true → ioAt io n = true → vs[m]? = some (.ref a) → vs[n]? = some (.ref a) → m = n) → SR K fa B F' (putIos e' ec j io bs) σ H'
  | [], io, ec, j, vs, r', r, h, _, _ => by
    unfold putIos
    exact r
  | b :: bs, io, ec, j, vs, r', r, h, hio, hinj => by
    simp only [BVs] at h
    obtain ⟨v, rr, e1, h1, h2⟩ := h
    subst e1
    have nxt : ∀ {io' : List Bool} {c : Bool} {ec' : Ev}, io = c :: io' ∨ (io = [] ∧ io' = []) → (∀ a, a ∈ owns ec' σ → a ∈ owns ec σ ∨ (c = true ∧ v = .ref a)) → (∀ (m : Nat), ioAt io' m = true → ∀ w, rr[m]? = some w → ∃ a, w = .ref a ∧ up a ∧ a ∉ owns ec' σ ∧ σ'[j + 1 + m]? = some (some (.ref a))) ∧
        (∀ (m n : Nat) (a : Addr), ioAt io' m = true → ioAt io' n = true → rr[m]? = some (.ref a) → rr[n]? = some (.ref a) → m = n) := fun {io' c ec'} hc hsub => by
      have up1 : ∀ m, ioAt io' m = true → ioAt io (m + 1) = true := fun m hm => by
        rcases hc with hc | ⟨hc, hc'⟩
        · subst hc
          exact hm
        · subst hc'
          rw [ioAt_nil] at hm
          cases hm
      refine ⟨fun m hm w hw => ?_, fun m n a g1 g2 g3 g4 => ?_⟩
      · obtain ⟨a, ea, g1, g2, g3⟩ := hio (m + 1) (up1 m hm) w hw
        refine ⟨a, ea, g1, fun hz => ?_, by rw [show j + 1 + m = j + (m + 1) by omega]; exact g3⟩
        rcases hsub a hz with z | ⟨z1, z2⟩
        · exact g2 z
        · subst ea
          have h0 : ioAt io 0 = true := by
            rcases hc with hc | ⟨hc, hc'⟩
            · subst hc
              exact z1
            · subst hc'
              rw [ioAt_nil] at hm
              cases hm
          have := hinj 0 (m + 1) a h0 (up1 m hm) (by rw [z2]; rfl) hw
          omega
      · have := hinj (m + 1) (n + 1) a (up1 m g1) (up1 n g2) g3 g4
        omega
    match io with
    | [] =>
      obtain ⟨n1, n2⟩ := nxt (io' := []) (c := false) (ec' := ec) (.inr ⟨rfl, rfl⟩) fun a z => .inl z
      have z := put_ok hup (bs := bs) r' r h2 n1 n2
      cases b <;> exact z
    | false :: io =>
      obtain ⟨n1, n2⟩ := nxt (io' := io) (c := false) (ec' := ec) (.inl rfl) fun a z => .inl z
      have z := put_ok hup (bs := bs) r' r h2 n1 n2
      cases b <;> exact z
    | true :: io =>
      cases b with
      | dat d =>
        unfold putIos
        obtain ⟨n1, n2⟩ := nxt (io' := io) (c := true) (ec' := ec) (.inl rfl) fun a z => .inl z
        exact put_ok hup (bs := bs) r' r h2 n1 n2
      | slot i =>
        unfold putIos
        obtain ⟨a, ea, g1, g2, g3⟩ := hio 0 rfl v rfl
        subst ea
        have hi : σ[i]? = some (some (.ref a)) := h1
        have hsl : SlR K fa F' H' (e'.getD j .no) (some (.ref a)) := by
          cases y : e'[j]? with
          | none =>
            rw [List.getD_eq_getElem?_getD, y]
            exact True.intro
          | some s =>
            rw [getD_some y]
            exact r'.sl j s _ y g3
        have r2 := r.give hi hsl fun d b e1 e2 => by
          cases e2
          exact ⟨hup a g1, g2⟩
        obtain ⟨n1, n2⟩ := nxt (io' := io) (c := true) (ec' := ec.set i (e'.getD j .no)) (.inl rfl) fun b z => by
          obtain ⟨m, d, q1, q2⟩ := mem_owns.mp z
          by_cases hm : i = m
          · subst hm
            rw [hi] at q2
            cases q2
            exact .inr ⟨rfl, rfl⟩
          · rw [List.getElem?_set_ne hm] at q1
            exact .inl (mem_owns.mpr ⟨m, d, q1, q2⟩)
        exact put_ok hup (bs := bs) r' r2 h2 n1 n2
/-- the heap only grows -/
theorem SR.grow (r : SR K fa B F e σ H) (l : Le H H') : SR K fa B F e σ H' := by
  refine ⟨r.sub.trans l, r.mono, r.fresh, fun a o q z => l _ _ (r.keep a o q z), fun a z => ?_, r.ios, r.len, fun i s w q1 q2 => ?_, r.own, r.inj⟩
  · obtain ⟨o, q⟩ := r.io a z
    exact ⟨o, l _ _ q⟩
  · refine (r.sl i s w q1 q2).le (Le.refl F) (fun d a o _ _ q => l _ _ q) fun d a es ew => ?_
    subst es ew
    obtain ⟨_, a', o, g1, _, _, g4⟩ := r.sl i _ _ q1 q2
    cases g1
    exact g4
end
end EV
/-! A call by the evaluator is the call. -/
namespace EV
open PySem L2
section
variable {K : PySem.W.Frag} {fa xa : Nat → Addr} {W : WX} {B : Bs} {F F' H H' : Hp} {e : Ev} {σ : L2.St}
theorem mkArgs_io : ∀ {bs : List Bor} {io : List Bool} {e ec : Ev} {sls : List Sl}, mkArgs e io bs = some (sls, ec) → ∀ m, m < bs.length → ioAt io m = true → ∃ d, sls[m]? = some (.ow d)
  | [], _, _, _, _, _, m, hm, _ => by simp at hm
  | b :: bs, io, e, ec, sls, q, m, hm, hio => by
    match io, q, hio with
    | true :: io, q, hio =>
      cases b with
      | dat d => simp [mkArgs] at q
      | slot i =>
        simp only [mkArgs] at q
        split at q
        · rename_i d hd
          cases hz : mkArgs (e.set i .no) io bs with
          | none =>
            rw [hz] at q
            cases q
          | some z =>
            rw [hz] at q
            cases q
            cases m with
            | zero => exact ⟨d, rfl⟩
            | succ m => exact mkArgs_io hz m (by simpa using hm) hio
        · cases q
    | false :: io, q, hio =>
      simp only [mkArgs] at q
      split at q
      · rename_i d hd
        cases hz : mkArgs (b.frz e) io bs with
        | none =>
          rw [hz] at q
          cases q
        | some z =>
          rw [hz] at q
          cases q
          cases m with
          | zero => cases hio
          | succ m => exact mkArgs_io hz m (by simpa using hm) hio
      · cases q
    | [], q, hio =>
      rw [ioAt_nil] at hio
      cases hio
theorem putIos_get {e' : Ev} {d' : D} {i : Nat} : ∀ {bs : List Bor} {io : List Bool} {ec : Ev} {j : Nat}, (putIos e' ec j io bs)[i]? = some (.ow d') → ec[i]? = some (.ow d') ∨ ∃ m, ioAt io m = true ∧ bs[m]? = some (.slot i) ∧ e'[j + m]? = some (.ow d')
  | [], io, ec, j, h => by
    unfold putIos at h
    exact .inl h
  | b :: bs, io, ec, j, h => by
    have up : ∀ {io' : List Bool} {c : Bool} {ec' : Ev}, (ec'[i]? = some (.ow d') ∨ ∃ m, ioAt io' m = true ∧ bs[m]? = some (.slot i) ∧ e'[j + 1 + m]? = some (.ow d')) → (∀ m, ioAt io' m = true → ioAt io (m + 1) = true) → (ec'[i]? = some (.ow d') → ec[i]? = some (.ow d') ∨ ∃ m, ioAt io m = true ∧ (b :: bs)[m]? = some (.slot i) ∧ e'[j + m]? = some (.ow d')) →
        ec[i]? = some (.ow d') ∨ ∃ m, ioAt io m = true ∧ (b :: bs)[m]? = some (.slot i) ∧ e'[j + m]? = some (.ow d') := fun {io' c ec'} h1 h2 h3 => by
      rcases h1 with z | ⟨m, z1, z2, z3⟩
      · exact h3 z
      · exact .inr ⟨m + 1, h2 m z1, z2, by rw [show j + (m + 1) = j + 1 + m by omega]; exact z3⟩
    match io with
    | [] =>
      have h' : (putIos e' ec (j + 1) [] bs)[i]? = some (.ow d') := by cases b <;> exact h
      exact up (c := true) (putIos_get h') (fun m z => by rw [ioAt_nil] at z; cases z) .inl
    | false :: io =>
      have h' : (putIos e' ec (j + 1) io bs)[i]? = some (.ow d') := by cases b <;> exact h
      exact up (c := true) (putIos_get h') (fun m z => z) .inl
    | true :: io =>
      cases b with
      | dat d => exact up (c := true) (putIos_get (show (putIos e' ec (j + 1) io bs)[i]? = some (.ow d') from h)) (fun m z => z) .inl
      | slot k =>
        refine up (c := true) (putIos_get (show (putIos e' (ec.set k (e'.getD j .no)) (j + 1) io bs)[i]? = some (.ow d') from h)) (fun m z => z) fun z => ?_
        by_cases hk : k = i
        · subst hk
          by_cases hl : k < ec.length
          · rw [List.getElem?_set_self hl] at z
            exact .inr ⟨0, rfl, rfl, getD_ow (Option.some.inj z)⟩
          · rw [List.getElem?_eq_none (by simpa using hl)] at z
            cases z
        · rw [List.getElem?_set_ne hk] at z
          exact .inl z
theorem BVs.length : ∀ {bs : List Bor} {vs : List V}, BVs K fa F σ bs vs → bs.length = vs.length
  | [], vs, h => by
    simp only [BVs] at h
    rw [h] <;> rfl
  | b :: bs, vs, h => by
    simp only [BVs] at h
    obtain ⟨v, r, e1, _, h2⟩ := h
    rw [e1, List.length_cons, List.length_cons, BVs.length h2]
theorem BVs.get : ∀ {bs : List Bor} {vs : List V} {m : Nat} {b : Bor}, BVs K fa F σ bs vs → bs[m]? = some b → ∃ v, vs[m]? = some v ∧ BV K fa F σ b v
  | [], vs, m, b, h, q => by simp at q
  | c :: bs, vs, m, b, h, q => by
    simp only [BVs] at h
    obtain ⟨v, r, e1, h1, h2⟩ := h
    subst e1
    cases m with
    | zero =>
      cases q
      exact ⟨v, rfl, h1⟩
    | succ m => exact BVs.get (m := m) h2 q
theorem call_ok {fi : Fn} {call : Nat → List Sl → FR} {f : Nat} {bs : List Bor} {vs : List V} {Q : VK} {F0 : Hp} (r : SR K fa B F e σ H) (l : Le F0 F) (bv : BVs K fa F σ bs vs) (hn : fi.np = bs.length) (hN : fi.np ≤ fi.N.length)
    (h : XP K fa xa W B F0 σ (doCall call fi.io f bs e) fun x e' => Fin K fa B F0 e' σ x.1 x.2 Q) : spFn K fa xa fi call f vs H Q (WE W σ) := by
  unfold doCall at h
  cases hm : mkArgs e fi.io bs with
  | none =>
    rw [hm] at h
    exact h.elim
  | some z =>
    obtain ⟨sls, ec⟩ := z
    rw [hm] at h
    obtain ⟨Fc, l1, r1, A, new⟩ := mk_ok r bv hm
    have hl : vs.length = fi.np := by rw [← BVs.length bv, hn]
    have up : ∀ a, a ∈ owns e σ → B.H a = none ∨ a ∈ B.IO := fun a z => by
      obtain ⟨i, d, q1, q2⟩ := mem_owns.mp z
      exact r.own i d a q1 q2
    have io_own : ∀ a, a ∈ (callB Fc H sls vs).IO → a ∈ owns e σ ∧ a ∉ owns ec σ := fun a h => by
      obtain ⟨p, hp, rfl⟩ := List.mem_map.mp h
      obtain ⟨d, q1, q2⟩ := mem_iosOf.mp hp
      obtain ⟨g1, g2, _⟩ := A.own p.1 d p.2 q1 q2
      exact ⟨g1, g2⟩
    -- the frame behind the call, everything handed back
    have fin : ∀ {e' : Ev} {σ' : L2.St} {F' H' : Hp}, Le Fc F' → SR K fa (callB Fc H sls vs) F' e' σ' H' → SR K fa B F' (putIos e' ec 0 fi.io bs) σ H' := fun {e' σ' F' H'} l' r' => by
      have r2 := SR.leave r r1 A r'
      refine put_ok (up := fun a => a ∈ owns e σ) up r' r2 (BVs.le (l1.trans l') bv) (fun m hio v hv => ?_) fun m n a g1 g2 g3 g4 => ?_
      · have hmb : m < bs.length := by
          rw [BVs.length bv]
          exact (List.getElem?_eq_some_iff.mp hv).1
        obtain ⟨d, hd⟩ := mkArgs_io hm m hmb hio
        obtain ⟨_, a, o, ea, _⟩ := A.sl m _ _ hd hv
        have ev : v = .ref a := Option.some.inj ea
        subst ev
        obtain ⟨g1, g2, _⟩ := A.own m d a hd hv
        refine ⟨a, rfl, g1, g2, ?_⟩
        rw [Nat.zero_add]
        exact r'.ios (m, a) (mem_iosOf.mpr ⟨d, hd, hv⟩)
      · have hm1 : m < bs.length := by
          rw [BVs.length bv]
          exact (List.getElem?_eq_some_iff.mp g3).1
        have hn1 : n < bs.length := by
          rw [BVs.length bv]
          exact (List.getElem?_eq_some_iff.mp g4).1
        obtain ⟨d, hd⟩ := mkArgs_io hm m hm1 g1
        obtain ⟨d', hd'⟩ := mkArgs_io hm n hn1 g2
        exact A.inj m n d d' a hd hd' g3 g4
    refine ⟨Fc, sls, _, _, hl, by rw [A.len, hl], SR.enter r1.sub A hl hN, fun p hp => ?_, ?_⟩
    · obtain ⟨d, q1, q2⟩ := mem_iosOf.mp hp
      exact (A.own p.1 d p.2 q1 q2).2.2
    · cases hc : call f sls with
      | st =>
        simp only [hc] at h
        exact h.elim
      | er c e' =>
        simp only [hc] at h
        exact fun F' σ' H' l' r' => h F' H' ((l.trans l1).trans l') (fin l' r')
      | ok d fr e' =>
        simp only [hc] at h
        intro F' σ' H' v l' r' fv
        by_cases c : (d.flat && !(fi.io.any id)) = true
        · rw [if_pos c] at h
          obtain ⟨c1, c2⟩ := Bool.and_eq_true_iff.mp c
          have hfr : fr = false := by
            cases fr with
            | false => rfl
            | true =>
              obtain ⟨p, o, _, _, ho, _⟩ := fv.new
              rw [ho.container] at c1
              cases c1
          subst hfr
          have noio : (callB Fc H sls vs).IO = [] := by
            cases z : (callB Fc H sls vs).IO with
            | nil => rfl
            | cons a t =>
              have ha : a ∈ (callB Fc H sls vs).IO := by rw [z]; exact List.mem_cons_self
              obtain ⟨p, hp, rfl⟩ := List.mem_map.mp ha
              obtain ⟨d2, q1, q2⟩ := mem_iosOf.mp hp
              have g3 := (A.own p.1 d2 p.2 q1 q2).2.2
              unfold ioAt at g3
              rw [List.getD_eq_getElem?_getD] at g3
              cases y : fi.io[p.1]? with
              | none =>
                rw [y] at g3
                cases g3
              | some b =>
                rw [y] at g3
                have hb : b = true := g3
                subst hb
                have : fi.io.any id = true := List.any_eq_true.mpr ⟨true, List.mem_of_getElem? y, rfl⟩
                rw [this] at c2
                cases c2
          have gr : Le H H' := fun a o q => r'.keep a o q (by show a ∉ (callB Fc H sls vs).IO; rw [noio]; exact fun z => nomatch z)
          exact h F H' v l (r.grow gr) (FV.sh (DR.flat_le c1 fv.dr F))
        · rw [if_neg c] at h
          refine h F' H' v ((l.trans l1).trans l') (fin l' r') ?_
          cases fr with
          | false => exact FV.sh fv.dr
          | true =>
            obtain ⟨p, o, e1, g1, g2, g3, g4, g5⟩ := fv.new
            subst e1
            refine FV.mk g1 g2 g3 ?_ fun i d' q1 q2 => ?_
            · rcases g4 with z | z
              · exact .inl (r.none_of z).2.1
              · exact up p (io_own p z).1
            · rcases putIos_get q1 with z | ⟨m, z1, z2, z3⟩
              · have hz : p ∈ owns ec σ := mem_owns.mpr ⟨i, d', z, q2⟩
                rcases g4 with y | y
                · obtain ⟨a, o', k1, k2, _⟩ := r1.ow z
                  rw [q2] at k1
                  cases k1
                  have y' : H p = none := y
                  rw [k2] at y'
                  cases y'
                · exact (io_own p y).2 hz
              · obtain ⟨v', k1, k2⟩ := BVs.get bv z2
                have k2' : σ[i]? = some (some v') := k2
                rw [q2] at k2'
                cases k2'
                have hmb : m < bs.length := (List.getElem?_eq_some_iff.mp z2).1
                obtain ⟨d2, hd2⟩ := mkArgs_io hm m hmb z1
                have k3 := r'.ios (m, p) (mem_iosOf.mpr ⟨d2, hd2, k1⟩)
                rw [Nat.zero_add] at z3
                exact g5 m d' z3 k3
end
end EV
/-! Expressions, node by node. -/
namespace EV
open PySem L2
section
variable {K : PySem.W.Frag} {fa xa : Nat → Addr} {W : WX} {B : Bs} {F F' H H' : Hp} {e : Ev} {σ : L2.St}
theorem read1 {α : Type} {A : EvR} {k : D → Ev → R α} {ok : α → Ev → Prop} {P : VK} (r : SR K fa B F e σ H) (h : XP K fa xa W B F σ (with1 A e k) ok)
    (c : ∀ d e1 F1 H1 x, Le F F1 → SR K fa B F1 e1 σ H1 → CR K fa F1 H1 d x → XP K fa xa W B F σ (k d e1) ok → P x H1) : rB K fa xa W A.b σ H P := by
  unfold with1 at h
  refine ⟨B, F, e, r, (h.run (Le.refl F)).imp fun b e1 _ q F1 H1 v l1 r1 bv => ?_⟩
  cases z : b.res e1 with
  | none =>
    rw [z] at q
    exact q.elim
  | some d =>
    rw [z] at q
    exact c d e1 F1 H1 v l1 r1 (BV.cr r1 bv z) q
theorem read2 {A A' : EvR} {k : D → D → Ev → R (D × Bool)} {ok : D × Bool → Ev → Prop} {P : V → V → Hp → Prop} (r : SR K fa B F e σ H) (h : XP K fa xa W B F σ (with2 A A' e k) ok)
    (c : ∀ d d' e2 F2 H2 x y, Le F F2 → SR K fa B F2 e2 σ H2 → CR K fa F2 H2 d x → CR K fa F2 H2 d' y → XP K fa xa W B F σ (k d d' e2) ok → P x y H2) : rB K fa xa W A.b σ H fun x H1 => rB K fa xa W A'.b σ H1 fun y H2 => P x y H2 := by
  unfold with2 at h
  refine ⟨B, F, e, r, (h.run (Le.refl F)).imp fun b e1 _ q F1 H1 x l1 r1 bv => ⟨B, F1, e1, r1, (q.run l1).imp fun b' e2 _ q2 F2 H2 y l2 r2 bv' => ?_⟩⟩
  cases z : b.res e2 with
  | none =>
    rw [z] at q2
    exact q2.elim
  | some d =>
    cases z' : b'.res e2 with
    | none =>
      rw [z, z'] at q2
      exact q2.elim
    | some d' =>
      rw [z, z'] at q2
      exact c d d' e2 F2 H2 x y (l1.trans l2) r2 (BV.cr r2 (BV.le l2 bv) z) (BV.cr r2 bv' z') q2
theorem reads {α : Type} {A : EvR} {k : List D → List Bor → Ev → R α} {ok : α → Ev → Prop} {P : List V → Hp → Prop} (r : SR K fa B F e σ H) (h : XP K fa xa W B F σ (withs A e k) ok)
    (c : ∀ ds bs e1 F1 H1 vs, Le F F1 → SR K fa B F1 e1 σ H1 → BVs K fa F1 σ bs vs → ress e1 bs = some ds → XP K fa xa W B F σ (k ds bs e1) ok → P vs H1) : rBs K fa xa W A.bs σ H P := by
  unfold withs at h
  refine ⟨B, F, e, r, (h.run (Le.refl F)).imp fun bs e1 _ q F1 H1 vs l1 r1 bv => ?_⟩
  cases z : ress e1 bs with
  | none =>
    rw [z] at q
    exact q.elim
  | some ds =>
    rw [z] at q
    exact c ds bs e1 F1 H1 vs l1 r1 bv z q
theorem XP.bl2 {o : Option Bool} {ok : D × Bool → Ev → Prop} (h : XP K fa xa W B F σ (bl2 o e) ok) : ∃ k, o = some k ∧ ok (.bl k, false) e := by
  obtain ⟨a, h1, h2⟩ := XP.of h
  cases o with
  | none => cases h1
  | some k =>
    cases h1
    exact ⟨k, rfl, h2⟩
theorem XP.dat {o : Option D} {ok : D × Bool → Ev → Prop} (h : XP K fa xa W B F σ (dat o e) ok) : ∃ d, o = some d ∧ ok (d, false) e := by
  obtain ⟨a, h1, h2⟩ := XP.of h
  cases o with
  | none => cases h1
  | some k =>
    cases h1
    exact ⟨k, rfl, h2⟩
end
section
variable {G : Cfg} {fa xa : Nat → Addr} {call : Nat → List Sl → FR} {k : Nat} {lv : Bool} {X : Cx} {sc : Scope} {W : WX}
abbrev SndA (G : Cfg) (fa xa : Nat → Addr) (call : Nat → List Sl → FR) (lv : Bool) (X : Cx) (sc : Scope) (W : WX) (a : SE) : Prop := Snd G fa xa call X W (evR G call a) (erR G X.N lv a sc)
theorem and3 {a b c : Bool} (h : (a && b && c) = true) : a = true ∧ b = true ∧ c = true := by
  cases a <;> cases b <;> cases c <;> first | exact ⟨rfl, rfl, rfl⟩ | cases h
theorem and2 {a b : Bool} (h : (a && b) = true) : a = true ∧ b = true := Bool.and_eq_true_iff.mp h
theorem nm_ok {x : Str} (h : nmB x = true) : (x == ("__debug__" : Str)) = false ∧ (x == ("__classdict__" : Str)) = false ∧ x ≠ "__name__" := by
  unfold nmB at h
  obtain ⟨h1, h2, h3⟩ := and3 h
  exact ⟨by simpa using h1, by simpa using h2, by simpa using h3⟩
theorem vis_ok (g : GoodE G fa xa call k lv X sc W) {x : Str} (h : visB sc x = true) : Vis X.env.scope x := by
  rw [g.scope]
  unfold visB at h
  split at h
  · exact .inl (by assumption)
  · exact .inr (.inl (by assumption))
  · exact .inr (.inr (by assumption))
  · cases h
theorem gl_ok (g : GoodE G fa xa call k lv X sc W) {x : Str} (h : glB sc x = true) : Gl X x := by
  show X.env.scope.names.lookup x = some .globalImplicit
  rw [g.scope]
  unfold glB at h
  split at h
  · assumption
  · cases h
theorem slot_ok (g : GoodE G fa xa call k lv X sc W) {i : Nat} {x : Str} {p : Pos} (h : slotB X.N sc i x = true) : PE X (.Name x p) (tVar i) := by
  obtain ⟨h1, h2, h3⟩ := and3 h
  obtain ⟨n1, n2, _⟩ := nm_ok h3
  exact pe_var (of_decide_eq_true h1) (vis_ok g h2) n1 n2
theorem snd_var (g : GoodE G fa xa call k lv X sc W) (i : Nat) : SndA G fa xa call lv X sc W (.var i) := by
  have at_ : ∀ x, okE x = true → (match x with | .Name x _ => slotB X.N sc i x | _ => false) = true → PE X x (tVar i) := fun x _ hx => by
    cases x <;> first
      | exact slot_ok g hx
      | cases hx
  have pl : ∀ x : Expr, (match x with | .Name x _ => slotB X.N sc i x | _ => false) = true → plainT x = true := fun x hx => by
    cases x <;> first
      | rfl
      | cases hx
  refine Snd.ofETB (fun x ok hx => PE.imp (at_ x ok hx) fun σ H Q ⟨B, F, e, r, q⟩ => ?_) (fun x ok hx => PT.imp (pt_truth (at_ x ok hx) (plainT_of (pl x hx))) fun σ H Q ⟨B, F, e, r, q⟩ => ?_)
    (fun op vs p hx => nomatch hx) (fun x ok hx => PE.imp (at_ x ok hx) fun σ H Q ⟨B, F, e, r, q⟩ => ?_)
  · cases z : e.getD i .no with
    | no =>
      simp only [z] at q
      exact q.elim
    | sh d =>
      simp only [z] at q
      obtain ⟨w, h1, v, h2, h3⟩ := r.at (getD_sh z)
      subst h2
      exact ⟨v, h1, q F H v (Le.refl F) r (FV.sh h3)⟩
    | ow d =>
      simp only [z] at q
      obtain ⟨F', v, l, r', h1, h2⟩ := r.frzSlot (getD_ow z)
      exact ⟨v, h1, q F' H v l r' (FV.sh h2)⟩
  · cases z : (e.getD i .no).get? with
    | none =>
      simp only [z] at q
      exact q.elim
    | some d =>
      simp only [z] at q
      obtain ⟨b, hb, q2⟩ := XP.of q
      have hv : ∃ v, σ[i]? = some (some v) := by
        cases y : e.getD i .no with
        | no =>
          rw [y] at z
          cases z
        | sh d' =>
          obtain ⟨w, h1, v, h2, h3⟩ := r.at (getD_sh y)
          subst h2
          exact ⟨v, h1⟩
        | ow d' =>
          obtain ⟨a, o, h1, _⟩ := r.ow (getD_ow y)
          exact ⟨_, h1⟩
      obtain ⟨v, hv⟩ := hv
      exact ⟨v, hv, b, tru_of r.sub hb (BV.cr r (b := .slot i) hv z), q2 F H (Le.refl F) r⟩
  · cases z : e.getD i .no with
    | no =>
      simp only [z] at q
      exact q.elim
    | sh d =>
      simp only [z] at q
      obtain ⟨w, h1, v, h2, h3⟩ := r.at (getD_sh z)
      subst h2
      exact ⟨v, h1, q F H v (Le.refl F) r h3⟩
    | ow d =>
      simp only [z] at q
      obtain ⟨a, o, h1, _⟩ := r.ow (getD_ow z)
      exact ⟨_, h1, q F H _ (Le.refl F) r h1⟩
theorem snd_lit (g : GoodE G fa xa call k lv X sc W) (d : D) : SndA G fa xa call lv X sc W (.lit d) := by
  refine Snd.ofPE (fun x ok hx => ?_) (fun x ok hx => by cases x <;> first | rfl | cases hx)
  cases x <;> try (cases hx)
  rename_i c j p
  have hc : litB d c = true := hx
  cases d <;> cases c <;> try (cases hc)
  · exact PE.imp pe_non fun σ H Q ⟨B, F, e, r, q⟩ => q.flat r (by simp only [DR])
  · rename_i b c
    have e1 : b = c := by simpa [litB] using hc
    subst e1
    exact PE.imp pe_bl fun σ H Q ⟨B, F, e, r, q⟩ => q.flat r (by simp only [DR])
  · rename_i b c
    have e1 : b = c := of_decide_eq_true hc
    subst e1
    exact PE.imp pe_int fun σ H Q ⟨B, F, e, r, q⟩ => q.flat r (by simp only [DR])
  · rename_i s x
    have e1 : x.cps.toList = s := of_decide_eq_true hc
    subst e1
    exact PE.imp pe_str fun σ H Q ⟨B, F, e, r, q⟩ => q.flat r (by simp only [DR])
theorem snd_glo (g : GoodE G fa xa call k lv X sc W) (n : Nat) : SndA G fa xa call lv X sc W (.glo n) := by
  refine Snd.ofPE (fun x ok hx => ?_) (fun x ok hx => by cases x <;> first | rfl | cases hx)
  cases x <;> try (cases hx)
  rename_i x p
  obtain ⟨h1, h2, h3⟩ := and3 hx
  cases z : G.glos[n]? with
  | none =>
    rw [z] at h1
    cases h1
  | some pr =>
    rw [z] at h1
    obtain ⟨y, d⟩ := pr
    have e1 : y = x := of_decide_eq_true h1
    subst e1
    obtain ⟨u, v, m1, m2, m3⟩ := g.facts.glo n y d z
    refine PE.imp (pe_glob (gl_ok g h2) m1 m2 (nm_ok h3).1) fun σ H Q ⟨B, F, e, r, q⟩ => ?_
    simp only [z] at q
    exact q.flat r (m3 F)
theorem snd_fnv (g : GoodE G fa xa call k lv X sc W) (n : Nat) : SndA G fa xa call lv X sc W (.fnv n) := by
  refine Snd.ofPE (fun x ok hx => ?_) (fun x ok hx => by cases x <;> first | rfl | cases hx)
  cases x <;> try (cases hx)
  rename_i x p
  obtain ⟨h1, h2, h3⟩ := and3 hx
  cases z : G.fns[n]? with
  | none =>
    rw [z] at h1
    cases h1
  | some fi =>
    rw [z] at h1
    have e1 : fi.name = x := of_decide_eq_true h1
    subst e1
    exact PE.imp (pe_glob (v := .ref (fa n)) (gl_ok g h2) (g.facts.fn n fi z).1 rfl (nm_ok h3).1) fun σ H Q ⟨B, F, e, r, q⟩ => q.flat r (by simp only [DR])
theorem units_ok (g : GoodE G fa xa call k lv X sc W) : X.A.units + 65 < cLine := by
  exact g.un
theorem snd_bin (g : GoodE G fa xa call k lv X sc W) (op : Operator) {a b : SE} (A : SndA G fa xa call lv X sc W a) (C : SndA G fa xa call lv X sc W b) : SndA G fa xa call lv X sc W (.bin op a b) := by
  refine Snd.ofPE (fun x ok hx => ?_) (fun x ok hx => by cases x <;> first | rfl | cases hx)
  cases x <;> try (cases hx)
  rename_i l o r' p
  obtain ⟨h1, h2, h3⟩ := and3 hx
  have e1 : o = op := of_decide_eq_true h1
  subst e1
  refine PE.imp (pe_op (op_bin (fa := fa) o) (A.b _ h2) (C.b _ h3)) fun σ H Q ⟨B, F, e, r, q⟩ => read2 r q fun d d' e2 F2 H2 x y l2 r2 cx cy q2 => ?_
  obtain ⟨z, hz, q3⟩ := XP.of q2
  exact ⟨B, F2, e2, σ, d, d', z.1, z.2, r2, cx, cy, hz, Fin.le l2 q3⟩
theorem snd_una (g : GoodE G fa xa call k lv X sc W) (op : UnaryOp) {a : SE} (A : SndA G fa xa call lv X sc W a) : SndA G fa xa call lv X sc W (.una op a) := by
  refine Snd.ofPE (fun x ok hx => ?_) (fun x ok hx => ?_)
  · cases x <;> try (cases hx)
    rename_i o l p
    obtain ⟨h1, h2, h3⟩ := and3 hx
    have e1 : o = op := of_decide_eq_true h1
    subst e1
    cases o <;> try (cases h2)
    · refine PE.imp (pe_un un_inv (A.b _ h3)) fun σ H Q ⟨B, F, e, r, q⟩ => read1 r q fun d e1 F1 H1 x l1 r1 cx q1 => ?_
      obtain ⟨z, hz, q2⟩ := XP.dat q1
      cases d <;> try (cases hz)
      simp only [CR, DR] at cx
      exact ⟨_, cx, (Fin.le l1 q2).flat r1 (by simp only [DR])⟩
    · refine PE.imp (pe_un un_neg (A.b _ h3)) fun σ H Q ⟨B, F, e, r, q⟩ => read1 r q fun d e1 F1 H1 x l1 r1 cx q1 => ?_
      obtain ⟨z, hz, q2⟩ := XP.dat q1
      cases d <;> try (cases hz)
      simp only [CR, DR] at cx
      exact ⟨_, cx, (Fin.le l1 q2).flat r1 (by simp only [DR])⟩
  · cases x <;> first
      | rfl
      | (rename_i o l p; obtain ⟨h1, h2, h3⟩ := and3 hx; have e1 : o = op := of_decide_eq_true h1; subst e1; cases o <;> first | rfl | cases h2)
      | cases hx
theorem snd_cmp (g : GoodE G fa xa call k lv X sc W) (op : CmpOp) {a b : SE} (A : SndA G fa xa call lv X sc W a) (C : SndA G fa xa call lv X sc W b) : SndA G fa xa call lv X sc W (.cmp op a b) := by
  have rd : ∀ {σ : L2.St} {H : Hp} {Q : VK}, rF X.K fa xa W (evR G call (.cmp op a b)).f σ H Q → tOp (rCmpD X.K fa op) (rB X.K fa xa W (evR G call a).b) (rB X.K fa xa W (evR G call b).b) σ H Q := fun {σ H Q} ⟨B, F, e, r, q⟩ => read2 r q fun d d' e2 F2 H2 x y l2 r2 cx cy q2 => by
    obtain ⟨k, hk, q3⟩ := XP.bl2 q2
    exact ⟨B, F2, e2, σ, d, d', .bl k, false, r2, cx, cy, by simp only [hk]; rfl, Fin.le l2 q3⟩
  have sp : ∀ {x : Expr} {P : Prop}, (match x with | .Compare l [o] [r] _ => decide (o = op) && (erR G X.N lv a sc).e l && (erR G X.N lv b sc).e r | _ => false) = true →
      (∀ l r p, x = .Compare l [op] [r] p → (erR G X.N lv a sc).e l = true → (erR G X.N lv b sc).e r = true → P) → P := fun {x P} hx c => by
    split at hx
    · rename_i l o r p
      obtain ⟨h1, h2, h3⟩ := and3 hx
      have e1 : o = op := of_decide_eq_true h1
      subst e1
      exact c l r p rfl h2 h3
    · cases hx
  refine Snd.ofET (fun x ok hx => sp hx fun l r p e1 h2 h3 => ?_) (fun x ok hx => sp hx fun l r p e1 h2 h3 => ?_) (fun op vs p hx => nomatch hx)
  · subst e1
    exact PE.imp (pe_cmpR (op_cmp (fa := fa) (units_ok g) op) (A.b _ h2) (C.b _ h3) (nomark_of (C.ok _ h3))) fun σ H Q h => rd h
  · subst e1
    refine PT.imp (pt_cmpR (op_cmp (fa := fa) (units_ok g) op) (A.b _ h2) (C.b _ h3) (nomark_of (C.ok _ h3))) fun σ H Q ⟨B, F, e, r, q⟩ => ?_
    have q' : XP X.K fa xa W B F σ (((evR G call (.cmp op a b)).f e).bind fun x e1 => R.of (truD x.1) e1) _ := q
    refine rd ⟨B, F, e, r, (q'.run (Le.refl F)).imp fun y e1 hy q1 F1 H1 v l1 r1 fv => ?_⟩
    obtain ⟨k, hk, q2⟩ := XP.of q1
    have hb : ∃ b, y = (.bl b, false) := by
      have hy' : with2 (evR G call a) (evR G call b) e (fun d d' e2 => bl2 (cmpD op d d') e2) = .ok y e1 := hy
      unfold with2 at hy'
      cases z1 : (evR G call a).b e <;> rw [z1] at hy' <;> try (cases hy')
      rename_i b1 e1'
      simp only [R.bind] at hy'
      cases z2 : (evR G call b).b e1' <;> rw [z2] at hy' <;> try (cases hy')
      rename_i b2 e2'
      simp only [R.bind] at hy'
      split at hy'
      · rename_i d d' _ _
        unfold bl2 at hy'
        cases z3 : cmpD op d d' with
        | none =>
          rw [z3] at hy'
          cases hy'
        | some b =>
          rw [z3] at hy'
          cases hy'
          exact ⟨b, rfl⟩
      · cases hy'
    obtain ⟨b, eb⟩ := hb
    subst eb
    have fv' := fv.dr
    simp only [DR] at fv'
    have ek : b = k := Option.some.inj hk
    subst ek
    exact ⟨b, fv', q2 F1 H1 l1 r1⟩
theorem snd_ix (g : GoodE G fa xa call k lv X sc W) {a b : SE} (A : SndA G fa xa call lv X sc W a) (C : SndA G fa xa call lv X sc W b) : SndA G fa xa call lv X sc W (.ix a b) := by
  refine Snd.ofPE (fun x ok hx => ?_) (fun x ok hx => by cases x <;> first | rfl | cases hx)
  cases x <;> try (cases hx)
  rename_i l r' p
  obtain ⟨h1, h2⟩ := and2 hx
  refine PE.imp (pe_ix (ix_ok (fa := fa) (by have := g.un; omega)) (A.b _ h1) (C.b _ h2) (plainIx_of (C.ok _ h2))) fun σ H Q ⟨B, F, e, r, q⟩ => read2 r q fun d d' e2 F2 H2 x y l2 r2 cx cy q2 => ?_
  obtain ⟨z, hz, q3⟩ := XP.dat q2
  exact ⟨B, F2, e2, σ, d, d', z, false, r2, cx, cy, by simp only [hz]; rfl, Fin.le l2 q3⟩
theorem snd_nil (g : GoodE G fa xa call k lv X sc W) : SndA G fa xa call lv X sc W .nil := by
  refine ⟨fun _ h => (nomatch h), fun _ h => (nomatch h), fun _ _ _ h => (nomatch h), fun _ h => (nomatch h), fun _ h => (nomatch h), fun xs hx => ?_, fun _ _ h => (nomatch h), fun _ h => (nomatch h), fun _ h => (nomatch h)⟩
  cases xs with
  | nil => exact PA.imp pa_nil fun σ H Q ⟨B, F, e, r, q⟩ => q F H [] (Le.refl F) r (by simp only [BVs])
  | cons _ _ => cases hx
theorem snd_cons (g : GoodE G fa xa call k lv X sc W) {a xs : SE} (A : SndA G fa xa call lv X sc W a) (C : SndA G fa xa call lv X sc W xs) : SndA G fa xa call lv X sc W (.cons a xs) := by
  refine ⟨fun _ h => (nomatch h), fun _ h => (nomatch h), fun _ _ _ h => (nomatch h), fun _ h => (nomatch h), fun _ h => (nomatch h), fun ys hx => ?_, fun _ _ h => (nomatch h), fun _ h => (nomatch h), fun _ h => (nomatch h)⟩
  cases ys with
  | nil => cases hx
  | cons y ys =>
    obtain ⟨h1, h2⟩ := and2 (show ((erR G X.N lv a sc).e y && (erR G X.N lv xs sc).es ys) = true from hx)
    refine PA.imp (pa_cons (A.b _ h1) (C.es _ h2) (starE (A.ok _ h1))) fun σ H Q ⟨B, F, e, r, q⟩ => ?_
    have q' : XP X.K fa xa W B F σ (((evR G call a).b e).bind fun b e1 => ((evR G call xs).bs e1).bind fun bs e2 => .ok (b :: bs) e2) _ := q
    refine ⟨B, F, e, r, (q'.run (Le.refl F)).imp fun b e1 _ q1 F1 H1 v l1 r1 bv => ⟨B, F1, e1, r1, (q1.run l1).imp fun bs e2 _ q2 F2 H2 vs l2 r2 bvs => ?_⟩⟩
    exact q2 F2 H2 (v :: vs) (l1.trans l2) r2 (by simp only [BVs]; exact ⟨v, vs, rfl, BV.le l2 bv, bvs⟩)
theorem snd_nop (g : GoodE G fa xa call k lv X sc W) : SndA G fa xa call lv X sc W .nop := by
  refine ⟨fun _ h => (nomatch h), fun _ h => (nomatch h), fun _ _ _ h => (nomatch h), fun _ h => (nomatch h), fun _ h => (nomatch h), fun _ h => (nomatch h), fun _ _ h => (nomatch h), fun x hx => ?_, fun x hx => ?_⟩
  · cases x with
    | none => exact PO.imp po_none fun σ H Q ⟨B, F, e, r, q⟩ => q F H (Le.refl F) r
    | some _ => cases hx
  · cases x with
    | nil => exact PTs.imp pts_nil fun σ H Q ⟨B, F, e, r, q⟩ => q F H (Le.refl F) r
    | cons _ _ => cases hx
theorem snd_lst (g : GoodE G fa xa call k lv X sc W) {xs : SE} (C : SndA G fa xa call lv X sc W xs) : SndA G fa xa call lv X sc W (.lst xs) := by
  refine Snd.ofPE (fun x ok hx => ?_) (fun x ok hx => by cases x <;> first | rfl | cases hx)
  cases x <;> try (cases hx)
  rename_i es p
  refine PE.imp (pe_lst (C.es es hx)) fun σ H Q ⟨B, F, e, r, q⟩ => reads r q fun ds bs e1 F1 H1 vs l1 r1 bv hd q1 => ?_
  split at q1
  · rename_i hl
    obtain ⟨F2, l2, r2, dr⟩ := SR.frzBs r1 bv hd
    have z : ds.length ≤ sizeLine := of_decide_eq_true hl
    refine ⟨by rw [← DRs.length dr]; exact z, fun p hp => (Fin.le (l1.trans l2) q1).new r2 hp ?_⟩
    simp only [OR]
    exact ⟨_, rfl, dr⟩
  · exact q1.elim
theorem snd_tup (g : GoodE G fa xa call k lv X sc W) {xs : SE} (C : SndA G fa xa call lv X sc W xs) : SndA G fa xa call lv X sc W (.tup xs) := by
  refine Snd.ofPE (fun x ok hx => ?_) (fun x ok hx => by cases x <;> first | rfl | cases hx)
  cases x <;> try (cases hx)
  rename_i es n p
  refine PE.imp (pe_tup (C.es es hx)) fun σ H Q ⟨B, F, e, r, q⟩ => reads r q fun ds bs e1 F1 H1 vs l1 r1 bv hd q1 => ?_
  split at q1
  · rename_i hl
    obtain ⟨F2, l2, r2, dr⟩ := SR.frzBs r1 bv hd
    have z : ds.length ≤ sizeLine := of_decide_eq_true hl
    refine ⟨by rw [← DRs.length dr]; exact z, fun p hp => (Fin.le (l1.trans l2) q1).newT r2 hp ?_⟩
    simp only [OR]
    exact ⟨_, rfl, dr⟩
  · exact q1.elim
theorem bi_glob (g : GoodE G fa xa call k lv X sc W) {x : Str} (h : x ∈ blts) : X.mg x = none := g.facts.free x h
end
end EV
/-! Expressions, node by node: chains, and, or, not, a if c else b, slices. -/
namespace EV
open PySem L2
section
variable {G : Cfg} {fa xa : Nat → Addr} {call : Nat → List Sl → FR} {k : Nat} {lv : Bool} {X : Cx} {sc : Scope} {W : WX}
def isBl (r : R (D × Bool)) : Prop := match r with
  | .ok y _ => ∃ b, y = (.bl b, false)
  | _ => True
theorem isBl_bind {α : Type} {r : R α} {k : α → Ev → R (D × Bool)} (h : ∀ a e, isBl (k a e)) : isBl (r.bind k) := by
  cases r with
  | ok a e => exact h a e
  | er c e => exact True.intro
  | st => exact True.intro
theorem isBl_bl2 {o : Option Bool} {e : Ev} : isBl (bl2 o e) := by
  cases o with
  | none => exact True.intro
  | some b => exact ⟨b, rfl⟩
theorem testT {f : Ev → R (D × Bool)} {x : Expr} {t : TE} (h : PT X x (tTest t)) (rd : ∀ σ H Q, rF X.K fa xa W f σ H Q → t σ H Q) (hb : ∀ e, isBl (f e)) : PT X x (rT X.K fa xa W (ofF f).t) := by
  refine PT.imp h fun σ H Q ⟨B, F, e, r, q⟩ => ?_
  have q' : XP X.K fa xa W B F σ ((f e).bind fun x e1 => R.of (truD x.1) e1) _ := q
  refine rd _ _ _ ⟨B, F, e, r, (q'.run (Le.refl F)).imp fun y e1 hy q1 F1 H1 v l1 r1 fv => ?_⟩
  obtain ⟨k, hk, q2⟩ := XP.of q1
  have eb := hb e
  rw [hy] at eb
  obtain ⟨b, eb⟩ := eb
  subst eb
  have fv' := fv.dr
  simp only [DR] at fv'
  have ek : b = k := Option.some.inj hk
  subst ek
  exact ⟨b, fv', q2 F1 H1 l1 r1⟩
theorem XP.eta {α : Type} {K : PySem.W.Frag} {B : Bs} {F : Hp} {σ : L2.St} {r : R α} {ok : α → Ev → Prop} (h : XP K fa xa W B F σ r ok) : XP K fa xa W B F σ (r.bind R.ok) ok := by
  cases r <;> exact h
theorem lastMarks_of {o p : CmpOp} {a b : Expr} (h : okE b = true) : lastMarks [o, p] [a, b] = false := nomark_of h
theorem snd_cmp2 (g : GoodE G fa xa call k lv X sc W) (o p : CmpOp) {a b c : SE} (A : SndA G fa xa call lv X sc W a) (C : SndA G fa xa call lv X sc W b) (E : SndA G fa xa call lv X sc W c) : SndA G fa xa call lv X sc W (.cmp2 o p a b c) := by
  have rd : ∀ (σ : L2.St) (H : Hp) (Q : VK), rF X.K fa xa W (evR G call (.cmp2 o p a b c)).f σ H Q → tChain (rCmpD X.K fa o) (rCmpD X.K fa p) (rB X.K fa xa W (evR G call a).b) (rB X.K fa xa W (evR G call b).b) (rB X.K fa xa W (evR G call c).b) σ H Q := fun σ H Q ⟨B, F, e, r, q⟩ => by
    have q' : XP X.K fa xa W B F σ (((evR G call a).b e).bind _) _ := q
    refine ⟨B, F, e, r, (q'.run (Le.refl F)).imp fun x e1 _ q1 F1 H1 v l1 r1 bv => ⟨B, F1, e1, r1, (q1.run l1).imp fun y e2 _ q2 F2 H2 u l2 r2 bu => ?_⟩⟩
    cases z : x.res e2 with
    | none =>
      rw [z] at q2
      exact q2.elim
    | some d =>
      cases z' : y.res e2 with
      | none =>
        rw [z, z'] at q2
        exact q2.elim
      | some d' =>
        simp only [z, z'] at q2
        cases hk : cmpD o d d' with
        | none =>
          simp only [hk] at q2
          exact q2.elim
        | some kk =>
          refine ⟨B, F2, e2, σ, d, d', .bl kk, false, r2, BV.cr r2 (BV.le l2 bv) z, BV.cr r2 bu z', by simp only [hk]; rfl, fun F3 H3 w l3 r3 fv => ?_⟩
          have fw := fv.dr
          simp only [DR] at fw
          refine ⟨kk, fw, ?_⟩
          cases kk with
          | false =>
            simp only [hk] at q2
            rw [if_neg Bool.false_ne_true]
            exact q2 F3 H3 _ ((l1.trans l2).trans l3) r3 (FV.sh (by simp only [DR]))
          | true =>
            simp only [hk] at q2
            rw [if_pos rfl]
            refine ⟨B, F3, e2, r3, (q2.run ((l1.trans l2).trans l3)).imp fun z3 e3 _ q3 F4 H4 w' l4 r4 bw => ?_⟩
            cases y1 : y.res e3 with
            | none =>
              rw [y1] at q3
              exact q3.elim
            | some d1 =>
              cases y2 : z3.res e3 with
              | none =>
                rw [y1, y2] at q3
                exact q3.elim
              | some d2 =>
                simp only [y1, y2] at q3
                obtain ⟨k2, hk2, q4⟩ := XP.bl2 q3
                exact ⟨B, F4, e3, σ, d1, d2, .bl k2, false, r4, BV.cr r4 (BV.le (l3.trans l4) bu) y1, BV.cr r4 bw y2, by simp only [hk2]; rfl, Fin.le (((l1.trans l2).trans l3).trans l4) q4⟩
  have sp : ∀ {x : Expr} {P : Prop}, (match x with | .Compare l [o', p'] [r, q] _ => decide (o' = o) && decide (p' = p) && (erR G X.N lv a sc).e l && (erR G X.N lv b sc).e r && (erR G X.N lv c sc).e q | _ => false) = true →
      (∀ l r q ps, x = .Compare l [o, p] [r, q] ps → (erR G X.N lv a sc).e l = true → (erR G X.N lv b sc).e r = true → (erR G X.N lv c sc).e q = true → P) → P := fun {x P} hx cc => by
    split at hx
    · rename_i l o' p' r q ps
      obtain ⟨hx, h3⟩ := and2 hx
      obtain ⟨hx, h2⟩ := and2 hx
      obtain ⟨hx, h1⟩ := and2 hx
      obtain ⟨e1, e2⟩ := and2 hx
      have e1 : o' = o := of_decide_eq_true e1
      have e2 : p' = p := of_decide_eq_true e2
      subst e1 e2
      exact cc l r q ps rfl h1 h2 h3
    · cases hx
  refine Snd.ofET (fun x ok hx => sp hx fun l r q ps e1 h1 h2 h3 => ?_) (fun x ok hx => sp hx fun l r q ps e1 h1 h2 h3 => ?_) (fun op vs p hx => nomatch hx)
  · subst e1
    exact PE.imp (pe_chain (op_cmp (fa := fa) (units_ok g) o) (op_cmp (fa := fa) (units_ok g) p) (A.b _ h1) (C.b _ h2) (E.b _ h3) (lastMarks_of (E.ok _ h3))) fun σ H Q h => rd σ H Q h
  · subst e1
    refine testT (pt_chain (op_cmp (fa := fa) (units_ok g) o) (op_cmp (fa := fa) (units_ok g) p) (A.b _ h1) (C.b _ h2) (E.b _ h3) (lastMarks_of (E.ok _ h3))) rd fun e => ?_
    show isBl (R.bind _ _)
    refine isBl_bind fun x e1 => isBl_bind fun y e2 => ?_
    split
    · split
      · refine isBl_bind fun z e3 => ?_
        split
        · exact isBl_bl2
        · exact True.intro
      · exact ⟨false, rfl⟩
      · exact True.intro
    · exact True.intro
/-- and, or -/
theorem snd_and (g : GoodE G fa xa call k lv X sc W) {a b : SE} (A : SndA G fa xa call lv X sc W a) (C : SndA G fa xa call lv X sc W b) : SndA G fa xa call lv X sc W (.and a b) := by
  have pe : ∀ l r rest p, (erR G X.N lv a sc).e l = true → PE X (.BoolOp .And (r :: rest) p) (rF X.K fa xa W (evR G call b).f) → PE X (.BoolOp .And (l :: r :: rest) p) (rF X.K fa xa W (evR G call (.and a b)).f) := fun l r rest p h1 h2 =>
    PE.imp (pe_andT (A.e _ h1) h2) fun σ H Q ⟨B, F, e, rr, q⟩ => by
      have q' : XP X.K fa xa W B F σ (((evR G call a).f e).bind _) _ := q
      refine ⟨B, F, e, rr, (q'.run (Le.refl F)).imp fun x e1 _ q1 F1 H1 v l1 r1 fv => ?_⟩
      cases hk : truD x.1 with
      | none =>
        simp only [hk] at q1
        exact q1.elim
      | some kk =>
        cases kk with
        | true =>
          simp only [hk] at q1
          obtain ⟨F2, l2, r2, d2⟩ := r1.freeze fv
          refine ⟨true, tru_of r2.sub hk (DR.cr r2.sub d2), ?_⟩
          rw [if_pos rfl]
          exact ⟨B, F2, e1, r2, ((XP.eta q1).run (l1.trans l2)).imp fun y e2 _ q2 => Fin.le (l1.trans l2) q2⟩
        | false =>
          simp only [hk] at q1
          obtain ⟨F2, l2, r2, d2⟩ := r1.freeze fv
          refine ⟨false, tru_of r2.sub hk (DR.cr r2.sub d2), ?_⟩
          rw [if_neg Bool.false_ne_true]
          exact q1 F1 H1 v l1 r1 fv
  have pw : ∀ l r rest p, (erR G X.N lv a sc).e l = true → PW X (.BoolOp .And (r :: rest) p) (rT X.K fa xa W (evR G call b).t) → PW X (.BoolOp .And (l :: r :: rest) p) (rT X.K fa xa W (evR G call (.and a b)).t) := fun l r rest p h1 h2 =>
    PW.imp (pw_and (A.t _ h1) h2) fun σ H Q ⟨B, F, e, rr, q⟩ => by
      have q' : XP X.K fa xa W B F σ (((evR G call a).t e).bind _) _ := q
      refine ⟨B, F, e, rr, (q'.run (Le.refl F)).imp fun x e1 _ q1 F1 H1 l1 r1 => ?_⟩
      cases x with
      | true =>
        rw [if_pos rfl]
        exact ⟨B, F1, e1, r1, ((XP.eta q1).run l1).imp fun y e2 _ q2 F2 H2 l2 r2 => q2 F2 H2 (l1.trans l2) r2⟩
      | false =>
        rw [if_neg Bool.false_ne_true]
        exact q1 F1 H1 l1 r1
  have both : ∀ {x : Expr}, (match x with
    | .BoolOp .And [l, r] _ => (erR G X.N lv a sc).e l && (erR G X.N lv b sc).e r
    | .BoolOp .And (l :: r :: q :: rest) p => (erR G X.N lv a sc).e l && (erR G X.N lv b sc).e (.BoolOp .And (r :: q :: rest) p)
    | _ => false) = true → PE X x (rF X.K fa xa W (evR G call (.and a b)).f) ∧ PW X x (rT X.K fa xa W (evR G call (.and a b)).t) := fun {x} hx => by
    split at hx
    · rename_i l r p
      obtain ⟨h1, h2⟩ := and2 hx
      exact ⟨pe l r [] p h1 (pe_one (C.e _ h2)), pw l r [] p h1 (pw_and1 (C.t _ h2))⟩
    · rename_i l r q rest p
      obtain ⟨h1, h2⟩ := and2 hx
      exact ⟨pe l r _ p h1 (C.e _ h2), pw l r _ p h1 (C.w _ _ _ h2)⟩
    · cases hx
  exact Snd.ofET (fun x ok hx => (both hx).1) (fun x ok hx => (both hx).2.pt) fun op vs p hx => (both hx).2
theorem snd_or (g : GoodE G fa xa call k lv X sc W) {a b : SE} (A : SndA G fa xa call lv X sc W a) (C : SndA G fa xa call lv X sc W b) : SndA G fa xa call lv X sc W (.or a b) := by
  have pe : ∀ l r rest p, (erR G X.N lv a sc).e l = true → PE X (.BoolOp .Or (r :: rest) p) (rF X.K fa xa W (evR G call b).f) → PE X (.BoolOp .Or (l :: r :: rest) p) (rF X.K fa xa W (evR G call (.or a b)).f) := fun l r rest p h1 h2 =>
    PE.imp (pe_orT (A.e _ h1) h2) fun σ H Q ⟨B, F, e, rr, q⟩ => by
      have q' : XP X.K fa xa W B F σ (((evR G call a).f e).bind _) _ := q
      refine ⟨B, F, e, rr, (q'.run (Le.refl F)).imp fun x e1 _ q1 F1 H1 v l1 r1 fv => ?_⟩
      cases hk : truD x.1 with
      | none =>
        simp only [hk] at q1
        exact q1.elim
      | some kk =>
        cases kk with
        | false =>
          simp only [hk] at q1
          obtain ⟨F2, l2, r2, d2⟩ := r1.freeze fv
          refine ⟨false, tru_of r2.sub hk (DR.cr r2.sub d2), ?_⟩
          rw [if_neg Bool.false_ne_true]
          exact ⟨B, F2, e1, r2, ((XP.eta q1).run (l1.trans l2)).imp fun y e2 _ q2 => Fin.le (l1.trans l2) q2⟩
        | true =>
          simp only [hk] at q1
          obtain ⟨F2, l2, r2, d2⟩ := r1.freeze fv
          refine ⟨true, tru_of r2.sub hk (DR.cr r2.sub d2), ?_⟩
          rw [if_pos rfl]
          exact q1 F1 H1 v l1 r1 fv
  have pw : ∀ l r rest p, (erR G X.N lv a sc).e l = true → PW X (.BoolOp .Or (r :: rest) p) (rT X.K fa xa W (evR G call b).t) → PW X (.BoolOp .Or (l :: r :: rest) p) (rT X.K fa xa W (evR G call (.or a b)).t) := fun l r rest p h1 h2 =>
    PW.imp (pw_or (A.t _ h1) h2) fun σ H Q ⟨B, F, e, rr, q⟩ => by
      have q' : XP X.K fa xa W B F σ (((evR G call a).t e).bind _) _ := q
      refine ⟨B, F, e, rr, (q'.run (Le.refl F)).imp fun x e1 _ q1 F1 H1 l1 r1 => ?_⟩
      cases x with
      | false =>
        rw [if_neg Bool.false_ne_true]
        exact ⟨B, F1, e1, r1, ((XP.eta q1).run l1).imp fun y e2 _ q2 F2 H2 l2 r2 => q2 F2 H2 (l1.trans l2) r2⟩
      | true =>
        rw [if_pos rfl]
        exact q1 F1 H1 l1 r1
  have both : ∀ {x : Expr}, (match x with
    | .BoolOp .Or [l, r] _ => (erR G X.N lv a sc).e l && (erR G X.N lv b sc).e r
    | .BoolOp .Or (l :: r :: q :: rest) p => (erR G X.N lv a sc).e l && (erR G X.N lv b sc).e (.BoolOp .Or (r :: q :: rest) p)
    | _ => false) = true → PE X x (rF X.K fa xa W (evR G call (.or a b)).f) ∧ PW X x (rT X.K fa xa W (evR G call (.or a b)).t) := fun {x} hx => by
    split at hx
    · rename_i l r p
      obtain ⟨h1, h2⟩ := and2 hx
      exact ⟨pe l r [] p h1 (pe_one (C.e _ h2)), pw l r [] p h1 (pw_or1 (C.t _ h2))⟩
    · rename_i l r q rest p
      obtain ⟨h1, h2⟩ := and2 hx
      exact ⟨pe l r _ p h1 (C.e _ h2), pw l r _ p h1 (C.w _ _ _ h2)⟩
    · cases hx
  exact Snd.ofET (fun x ok hx => (both hx).1) (fun x ok hx => (both hx).2.pt) fun op vs p hx => (both hx).2
theorem snd_not (g : GoodE G fa xa call k lv X sc W) {a : SE} (A : SndA G fa xa call lv X sc W a) : SndA G fa xa call lv X sc W (.not a) := by
  refine Snd.ofET (fun x ok hx => ?_) (fun x ok hx => ?_) fun op vs p hx => nomatch hx
  · split at hx
    · rename_i l p
      refine PE.imp (pe_notT (A.b _ hx)) fun σ H Q ⟨B, F, e, r, q⟩ => read1 r q fun d e1 F1 H1 x l1 r1 cx q1 => ?_
      obtain ⟨k, hk, q2⟩ := XP.bl2 q1
      cases ht : truD d with
      | none =>
        rw [ht] at hk
        cases hk
      | some t =>
        rw [ht] at hk
        cases hk
        exact ⟨t, tru_of r1.sub ht cx, (Fin.le l1 q2).flat r1 (by simp only [DR])⟩
    · cases hx
  · split at hx
    · rename_i l p
      refine PT.imp (pt_not (A.t _ hx)) fun σ H Q ⟨B, F, e, r, q⟩ => ?_
      have q' : XP X.K fa xa W B F σ (((evR G call a).t e).bind _) _ := q
      exact ⟨B, F, e, r, (q'.run (Le.refl F)).imp fun x e1 _ q1 F1 H1 l1 r1 => q1 F1 H1 l1 r1⟩
    · cases hx
theorem pt_ife {c a b : Expr} {pos : Pos} {tc ta tb : TT} (hc : PT X c tc) (ha : PT X a ta) (hb : PT X b tb) : PT X (.IfExp c a b pos) (fun σ H Q => tc σ H fun d H1 => if d = true then ta σ H1 Q else tb σ H1 Q) := by
  refine ⟨fun pins s σ H Q I h => ?_⟩
  refine PyProof.Rows.isTrue_IfExp (thn (hc.run pins s σ H _ I h) fun d s1 ⟨H1, I1, q1⟩ => ?_)
  cases d with
  | true => exact ha.run pins s1 σ H1 Q I1 q1
  | false => exact hb.run pins s1 σ H1 Q I1 q1
theorem snd_ife (g : GoodE G fa xa call k lv X sc W) {c a b : SE} (E : SndA G fa xa call lv X sc W c) (A : SndA G fa xa call lv X sc W a) (C : SndA G fa xa call lv X sc W b) : SndA G fa xa call lv X sc W (.ife c a b) := by
  refine Snd.ofET (fun x ok hx => ?_) (fun x ok hx => ?_) fun op vs p hx => nomatch hx
  · split at hx
    · rename_i t l r p
      obtain ⟨h1, h2, h3⟩ := and3 hx
      refine PE.imp (pe_ifExp (E.t _ h1) (A.e _ h2) (C.e _ h3)) fun σ H Q ⟨B, F, e, r, q⟩ => ?_
      have q' : XP X.K fa xa W B F σ (((evR G call c).t e).bind _) _ := q
      refine ⟨B, F, e, r, (q'.run (Le.refl F)).imp fun x e1 _ q1 F1 H1 l1 r1 => ?_⟩
      cases x with
      | true =>
        rw [if_pos rfl]
        exact ⟨B, F1, e1, r1, ((XP.eta q1).run l1).imp fun y e2 _ q2 => Fin.le l1 q2⟩
      | false =>
        rw [if_neg Bool.false_ne_true]
        exact ⟨B, F1, e1, r1, ((XP.eta q1).run l1).imp fun y e2 _ q2 => Fin.le l1 q2⟩
    · cases hx
  · split at hx
    · rename_i t l r p
      obtain ⟨h1, h2, h3⟩ := and3 hx
      refine PT.imp (pt_ife (E.t _ h1) (A.t _ h2) (C.t _ h3)) fun σ H Q ⟨B, F, e, r, q⟩ => ?_
      have q' : XP X.K fa xa W B F σ (((evR G call c).t e).bind _) _ := q
      refine ⟨B, F, e, r, (q'.run (Le.refl F)).imp fun x e1 _ q1 F1 H1 l1 r1 => ?_⟩
      cases x with
      | true =>
        rw [if_pos rfl]
        exact ⟨B, F1, e1, r1, ((XP.eta q1).run l1).imp fun y e2 _ q2 F2 H2 l2 r2 => q2 F2 H2 (l1.trans l2) r2⟩
      | false =>
        rw [if_neg Bool.false_ne_true]
        exact ⟨B, F1, e1, r1, ((XP.eta q1).run l1).imp fun y e2 _ q2 F2 H2 l2 r2 => q2 F2 H2 (l1.trans l2) r2⟩
    · cases hx
theorem snd_sl (g : GoodE G fa xa call k lv X sc W) {a lo hi : SE} (A : SndA G fa xa call lv X sc W a) (C : SndA G fa xa call lv X sc W lo) (E : SndA G fa xa call lv X sc W hi) : SndA G fa xa call lv X sc W (.sl a lo hi) := by
  refine Snd.ofPE (fun x ok hx => ?_) (fun x ok hx => by cases x <;> first | rfl | cases hx)
  split at hx
  · rename_i l l1 h1 p p'
    obtain ⟨g1, g2, g3⟩ := and3 hx
    refine PE.imp (pe_slice (sl_ok (fa := fa)) (A.b _ g1) (C.o _ g2) (E.o _ g3)) fun σ H Q ⟨B, F, e, r, q⟩ => ?_
    have q' : XP X.K fa xa W B F σ (((evR G call a).b e).bind _) _ := q
    refine ⟨B, F, e, r, (q'.run (Le.refl F)).imp fun x e1 _ q1 F1 H1 v l1 r1 bv => ⟨B, F1, e1, r1, (q1.run l1).imp fun o e2 _ q2 F2 H2 l2 r2 => ⟨B, F2, e2, r2, (q2.run (l1.trans l2)).imp fun o' e3 _ q3 F3 H3 l3 r3 => ?_⟩⟩⟩
    cases z : x.res e3 with
    | none =>
      rw [z] at q3
      exact q3.elim
    | some d =>
      rw [z] at q3
      obtain ⟨y, hy, q4⟩ := XP.of q3
      exact ⟨B, F3, e3, σ, d, y.1, y.2, r3, BV.cr r3 (BV.le (l2.trans l3) bv) z, hy, Fin.le ((l1.trans l2).trans l3) q4⟩
  · cases hx
end
end EV
/-! Expressions, node by node: calls. -/
namespace EV
open PySem L2
theorem eF_ok {f : Expr → Bool} {x : Expr} (h : (eF f).e x = true) : okE x = true := (Bool.and_eq_true_iff.mp h).1
theorem er_ok {G : Cfg} {N : List Str} {lv : Bool} {sc : Scope} {a : SE} {x : Expr} (h : (erR G N lv a sc).e x = true) : okE x = true := by
  cases a <;> first
    | exact eF_ok h
    | (cases h)
theorem es_ok {G : Cfg} {N : List Str} {lv : Bool} {sc : Scope} : ∀ (a : SE) (xs : List Expr), (erR G N lv a sc).es xs = true → ∀ x ∈ xs, okE x = true
  | .nil, xs, h => by
    cases xs with
    | nil => exact fun x hx => nomatch hx
    | cons _ _ => cases h
  | .cons a r, xs, h => by
    cases xs with
    | nil => cases h
    | cons y ys =>
      obtain ⟨h1, h2⟩ := Bool.and_eq_true_iff.mp (show ((erR G N lv a sc).e y && (erR G N lv r sc).es ys) = true from h)
      intro x hx
      rcases List.mem_cons.mp hx with z | z
      · subst z
        exact er_ok h1
      · exact es_ok r ys h2 x z
  | .var _, xs, h | .lit _, xs, h | .glo _, xs, h | .fnv _, xs, h | .bin _ _ _, xs, h | .una _ _, xs, h | .cmp _ _ _, xs, h | .cmp2 _ _ _ _ _, xs, h | .and _ _, xs, h | .or _ _, xs, h | .not _, xs, h | .ife _ _ _, xs, h
  | .lst _, xs, h | .tup _, xs, h | .ix _ _, xs, h | .sl _ _ _, xs, h | .call _ _, xs, h | .callv _ _, xs, h | .bi _ _, xs, h | .isi _ _, xs, h | .me _ _ _, xs, h | .mu _ _ _, xs, h | .comp _ _ _ _ _, xs, h | .rng1 _, xs, h | .rng2 _ _, xs, h | .nop, xs, h => nomatch h
theorem es_nil {G : Cfg} {N : List Str} {lv : Bool} {sc : Scope} {call : Nat → List Sl → FR} {a : SE} (h : (erR G N lv a sc).es [] = true) (e : Ev) : (evR G call a).bs e = .ok [] e := by
  cases a <;> first
    | rfl
    | (cases h)
theorem star_all {env : Env} : ∀ {xs : List Expr}, (∀ x ∈ xs, okE x = true) → starEach xs env = xs.map fun x => (false, eval x env)
  | [], _ => rfl
  | x :: xs, h => by
    rw [starE (h x List.mem_cons_self), star_all fun y hy => h y (List.mem_cons_of_mem _ hy)] <;> rfl
theorem backTo_plain {env : Env} {pos : Pos} : ∀ xs : List Expr, (backTo pos (xs.map fun x => (false, eval x env))).any (·.1) = false
  | [] => rfl
  | x :: xs => backTo_plain xs
theorem backTo_all {env : Env} {pos : Pos} : ∀ xs : List Expr, (backTo pos (xs.map fun x => (false, eval x env))).all (fun x => !x.1) = true
  | [] => rfl
  | x :: xs => backTo_all xs
section
variable {G : Cfg} {fa xa : Nat → Addr} {call : Nat → List Sl → FR} {k : Nat} {lv : Bool} {X : Cx} {sc : Scope} {W : WX}
theorem args_hs {env : Env} {x : Expr} {xs : List Expr} (h : ∀ y ∈ x :: xs, okE y = true) : starEach (x :: xs) env = (false, eval x env) :: starEach xs env := starE (h x List.mem_cons_self)
theorem args_pl {env : Env} {pos : Pos} {x : Expr} {xs : List Expr} (h : ∀ y ∈ x :: xs, okE y = true) : (backTo pos (starEach xs env)).any (·.1) = false := by
  rw [star_all fun y hy => h y (List.mem_cons_of_mem _ hy)]
  exact backTo_plain xs
theorem goCall_ok {f : Nat} {bs : List Bor} {e : Ev} {B : Bs} {F0 F : Hp} {σ : L2.St} {H : Hp} {vs : List V} {Q : VK} (g : Facts X.K X.mg G fa xa) (r : SR X.K fa B F e σ H) (l : Le F0 F) (bv : BVs X.K fa F σ bs vs)
    (q : XP X.K fa xa W B F0 σ (goCall G call f bs e) fun x e' => Fin X.K fa B F0 e' σ x.1 x.2 Q) : ∃ fi, G.fns[f]? = some fi ∧ spFn X.K fa xa fi call f vs H Q (WE W σ) := by
  unfold goCall at q
  cases z : G.fns[f]? with
  | none =>
    rw [z] at q
    exact q.elim
  | some fi =>
    simp only [z] at q
    refine ⟨fi, rfl, ?_⟩
    split at q
    · rename_i hn
      exact call_ok r l bv hn (g.fn f fi z).2 q
    · exact q.elim
theorem snd_call (g : GoodE G fa xa call k lv X sc W) (f : Nat) {xs : SE} (C : SndA G fa xa call lv X sc W xs) : SndA G fa xa call lv X sc W (.call f xs) := by
  refine Snd.ofPE (fun x ok hx => ?_) (fun x ok hx => by replace hx := (and2 hx).2; cases x <;> first | rfl | cases hx)
  have hlv := (and2 hx).1
  replace hx := (and2 hx).2
  split at hx
  · rename_i x p es pos
    obtain ⟨hx, h4⟩ := and2 hx
    obtain ⟨h1, h2, h3⟩ := and3 hx
    cases z : G.fns[f]? with
    | none =>
      rw [z] at h1
      cases h1
    | some fi =>
      rw [z] at h1
      have e1 : fi.name = x := of_decide_eq_true h1
      subst e1
      obtain ⟨fd, FO, hk, hb⟩ := g.calls f fi z
      have rd : ∀ (σ : L2.St) (H : Hp) (Q : VK), rF X.K fa xa W (evR G call (.call f xs)).f σ H Q → tCallS (spFn X.K fa xa fi call f) (WE W) (rBs X.K fa xa W (evR G call xs).bs) σ H Q := fun σ H Q ⟨B, F, e, r, q⟩ => by
        have q' : XP X.K fa xa W B F σ (((evR G call xs).bs e).bind fun bs e1 => goCall G call f bs e1) _ := q
        refine ⟨B, F, e, r, (q'.run (Le.refl F)).imp fun bs e1 _ q1 F1 H1 vs l1 r1 bv => ?_⟩
        obtain ⟨fi', z', sp⟩ := goCall_ok g.facts r1 l1 bv q1
        rw [z] at z'
        cases z'
        exact sp
      cases es with
      | nil =>
        refine PE.imp ⟨fun pins s σ H Q I h => ?_⟩ rd
        have h' : spFn X.K fa xa fi call f [] H Q (WE W σ) := by
          obtain ⟨B, F, e, r, q⟩ := h
          rw [es_nil h4] at q
          exact q F H [] (Le.refl F) r (by simp only [BVs])
        refine wpAny_Call_Name_kw (ld_glob I (gl_ok g h2) (g.facts.fn f fi z).1 ?_ (nm_ok h3).1)
        exact PySem.W.callWith_K0 I.kIn hk (run_fnS (us := []) FO (g.room hlv) hb (passAt g.tk σ) I .nil h')
      | cons y ys =>
        have ok := es_ok xs _ h4
        exact PE.imp (pe_callS FO (g.room hlv) (gl_ok g h2) (g.facts.fn f fi z).1 hk hb (fun σ => passAt g.tk σ) (C.es _ h4) (nm_ok h3).1 (args_hs ok) (args_pl ok)) rd
  · cases hx
theorem pe_callvS (g : GoodE G fa xa call k lv X sc W) (hlv : lv = true) {i : Nat} {x : Str} {p pos : Pos} {y : Expr} {ys : List Expr} {t : TA} (hN : X.N[i]? = some x) (hv : Vis X.env.scope x) (hdb : (x == ("__debug__" : Str)) = false) (hcd : (x == ("__classdict__" : Str)) = false) (ok : ∀ z ∈ y :: ys, okE z = true) (ha : PA X (y :: ys) t) :
    PE X (.Call (.Name x p) (y :: ys) [] pos) (fun σ H Q => ∃ f fi, σ[i]? = some (some (.ref (fa f))) ∧ G.fns[f]? = some fi ∧ t σ H fun vs H1 => spFn X.K fa xa fi call f vs H1 Q (WE W σ)) := by
  refine ⟨fun pins s σ H Q I h => ?_⟩
  obtain ⟨f, fi, hs, z, ht⟩ := h
  obtain ⟨fd, FO, hk, hb⟩ := g.calls f fi z
  refine wpAny_Call_Name_kw (thn ((pe_var (pos := p) hN hv hdb hcd).run pins s σ H (fun v H1 => v = .ref (fa f) ∧ H1 = H) I ⟨.ref (fa f), hs, rfl, rfl⟩) fun u s1 ⟨v, H1, I1, r1, q1⟩ => ?_)
  obtain ⟨rfl, rfl⟩ := q1
  cases r1
  refine PySem.W.callWith_K (h₀ := X.base) I.ok.mod.kin hk (thn (ha.run pos pins s1 σ _ _ I1 ht) fun us s2 ⟨vs, H2, I2, r, q⟩ => ⟨I2.kIn, ?_⟩) (args_hs ok) (args_pl ok)
  exact run_fnS FO (g.room hlv) hb (passAt g.tk σ) I2 r q
theorem snd_callv (g : GoodE G fa xa call k lv X sc W) (i : Nat) {xs : SE} (C : SndA G fa xa call lv X sc W xs) : SndA G fa xa call lv X sc W (.callv i xs) := by
  refine Snd.ofPE (fun x ok hx => ?_) (fun x ok hx => by replace hx := (and2 hx).2; cases x <;> first | rfl | cases hx)
  have hlv := (and2 hx).1
  replace hx := (and2 hx).2
  split at hx
  · rename_i x p y ys pos
    obtain ⟨hx, h4⟩ := and2 hx
    obtain ⟨h1, h2, h3⟩ := and3 hx
    obtain ⟨n1, n2, _⟩ := nm_ok h3
    refine PE.imp (pe_callvS g hlv (of_decide_eq_true h1) (vis_ok g h2) n1 n2 (es_ok xs _ h4) (C.es _ h4)) fun σ H Q ⟨B, F, e, r, q⟩ => ?_
    have q' : XP X.K fa xa W B F σ (match e.getD i .no with
      | .sh (.fn f) => match G.fns[f]? with
        | some _ => ((evR G call xs).bs e).bind fun bs e1 => goCall G call f bs e1
        | none => .st
      | _ => .st) _ := q
    split at q'
    · rename_i f hs
      obtain ⟨w, g1, v, g2, g3⟩ := r.at (getD_sh hs)
      simp only [DR] at g3
      subst g2 g3
      split at q'
      · rename_i fi z
        refine ⟨f, fi, g1, z, B, F, e, r, (q'.run (Le.refl F)).imp fun bs e1 _ q1 F1 H1 vs l1 r1 bv => ?_⟩
        obtain ⟨fi', z', sp⟩ := goCall_ok g.facts r1 l1 bv q1
        rw [z] at z'
        cases z'
        exact sp
      · exact q'.elim
    · exact q'.elim
  · cases hx
theorem boot_bi (b : Bi) : bootBuiltins (biNm b) = some (biV b) ∧ biNm b ≠ "__name__" ∧ (biNm b == ("__debug__" : Str)) = false ∧ biNm b ∈ blts := by
  cases b <;> exact ⟨by decide +kernel, by decide, by decide, by decide⟩
theorem biV_cases (b : Bi) : (∃ id, biV b = .builtin id) ∨ ∃ T, biV b = .type T := by
  cases b <;> first
    | exact .inl ⟨_, rfl⟩
    | exact .inr ⟨_, rfl⟩
theorem snd_bi (g : GoodE G fa xa call k lv X sc W) (b : Bi) {xs : SE} (C : SndA G fa xa call lv X sc W xs) : SndA G fa xa call lv X sc W (.bi b xs) := by
  refine Snd.ofPE (fun x ok hx => ?_) (fun x ok hx => by replace hx := (and2 hx).2; cases x <;> first | rfl | cases hx)
  have hlv := (and2 hx).1
  replace hx := (and2 hx).2
  split at hx
  · rename_i x p y ys pos
    obtain ⟨h1, h2, h3⟩ := and3 hx
    have e1 : x = biNm b := of_decide_eq_true h1
    subst e1
    obtain ⟨b1, b2, b3, b4⟩ := boot_bi b
    have ok := es_ok xs _ h3
    have rd : ∀ (σ : L2.St) (H : Hp) (Q : VK), rF X.K fa xa W (evR G call (.bi b xs)).f σ H Q → tCB (rBi X.K fa b) (rBs X.K fa xa W (evR G call xs).bs) σ H Q := fun σ H Q ⟨B, F, e, r, q⟩ => reads r q fun ds bs e1 F1 H1 vs l1 r1 bv hd q1 => by
      obtain ⟨z, hz, q2⟩ := XP.of q1
      exact ⟨B, F1, e1, σ, ds, z.1, z.2, r1, BVs.crs r1 bv hd, hz, Fin.le l1 q2⟩
    have hc := bi_ok (fa := fa) (g.calm hlv) b
    rcases biV_cases b with ⟨id, hv⟩ | ⟨T, hv⟩
    · rw [hv] at hc b1
      exact PE.imp (pe_callB hc (gl_ok g h2) (g.facts.free _ b4) b1 (C.es _ h3) b2 b3 (args_hs ok) (args_pl ok)) rd
    · rw [hv] at hc b1
      exact PE.imp (pe_callTy hc (gl_ok g h2) (g.facts.free _ b4) b1 (C.es _ h3) b2 b3 (args_hs ok) (args_pl ok)) rd
  · cases hx
theorem boot_ty (t : Ty) : bootBuiltins (tyNm t) = some (.type (tyN t)) ∧ tyNm t ≠ "__name__" ∧ (tyNm t == ("__debug__" : Str)) = false ∧ tyNm t ∈ blts := by
  cases t <;> exact ⟨by decide +kernel, by decide, by decide, by decide⟩
theorem boot_isi : bootBuiltins "isinstance" = some (.builtin "isinstance") := by decide +kernel
theorem snd_isi (g : GoodE G fa xa call k lv X sc W) (t : Ty) {a : SE} (A : SndA G fa xa call lv X sc W a) : SndA G fa xa call lv X sc W (.isi a t) := by
  refine Snd.ofPE (fun x ok hx => ?_) (fun x ok hx => by cases x <;> first | rfl | cases hx)
  split at hx
  · rename_i x p l y p' pos
    obtain ⟨hx, h5⟩ := and2 hx
    obtain ⟨hx, h4⟩ := and2 hx
    obtain ⟨h1, h2, h3⟩ := and3 hx
    have e1 : x = "isinstance" := of_decide_eq_true h1
    have e2 : y = tyNm t := of_decide_eq_true h3
    subst e1 e2
    obtain ⟨b1, b2, b3, b4⟩ := boot_ty t
    have hy : PE X (.Name (tyNm t) p') (tC (.ty (tyN t))) := pe_bltn (gl_ok g h4) (g.facts.free _ b4) b1 rfl b2 b3
    have ha := pa_cons (A.b _ h5) (pa_cons hy pa_nil (starE (x := .Name (tyNm t) p') rfl)) (starE (A.ok _ h5))
    refine PE.imp (pe_callB (isi_ok (fa := fa) t) (gl_ok g h2) (g.facts.free _ (by decide)) boot_isi ha (by decide) (by decide) (starE (A.ok _ h5)) rfl) fun σ H Q ⟨B, F, e, r, q⟩ => read1 r q fun d e1 F1 H1 x l1 r1 cx q1 => ?_
    obtain ⟨kk, hk, q2⟩ := XP.bl2 q1
    exact ⟨B, F1, e1, σ, d, x, kk, rfl, r1, cx, hk, Fin.le l1 q2⟩
  · cases hx
theorem me_facts (m : Me) : PlainAttrs (meT m) ∧ Slot (meT m) (meNm m) (meId m) ∧ typeOf (.builtin (meId m)) = pure (.type "method_descriptor") := by
  cases m
  · exact ⟨PySem.F.plainAttrs_str, PySem.F.slot_str_join, PySem.F.type_str_join⟩
  · exact ⟨PySem.F.plainAttrs_list, PySem.F.slot_list_index, PySem.F.type_list_index⟩
  · exact ⟨PySem.F.plainAttrs_list, PySem.F.slot_list_count, PySem.F.type_list_count⟩
  · exact ⟨PySem.F.plainAttrs_str, PySem.F.slot_str_count, PySem.F.type_str_count⟩
theorem mu_facts (m : Mu) : PlainAttrs "list" ∧ Slot "list" (muNm m) (muId m) ∧ typeOf (.builtin (muId m)) = pure (.type "method_descriptor") := by
  cases m
  · exact ⟨PySem.F.plainAttrs_list, slot_list_append, type_list_append⟩
  · exact ⟨PySem.F.plainAttrs_list, PySem.F.slot_list_pop, PySem.F.type_list_pop⟩
theorem few_ok {env : Env} {pos : Pos} {y : Expr} {ys : List Expr} (ok : ∀ z ∈ y :: ys, okE z = true) (h : ys.length < 20) : ((backTo pos (starEach (y :: ys) env)).all (fun x => !x.1) && (backToKw pos (keywordEach [] env)).all (fun x => x.1.isSome)
      && decide ((y :: ys).length + ([] : List Keyword).length + (if ([] : List Keyword).isEmpty then 0 else 1) < 30)) = true := by
  rw [star_all ok, backTo_all]
  show (true && true && decide _) = true
  rw [Bool.true_and, Bool.true_and]
  refine decide_eq_true ?_
  show ys.length + 1 + 0 + 0 < 30
  omega
theorem snd_me (g : GoodE G fa xa call k lv X sc W) (m : Me) {a xs : SE} (A : SndA G fa xa call lv X sc W a) (C : SndA G fa xa call lv X sc W xs) : SndA G fa xa call lv X sc W (.me m a xs) := by
  refine Snd.ofPE (fun x ok hx => ?_) (fun x ok hx => by cases x <;> first | rfl | cases hx)
  split at hx
  · rename_i o at_ ap y ys cp
    obtain ⟨hx, h6⟩ := and2 hx
    obtain ⟨hx, h5⟩ := and2 hx
    obtain ⟨hx, h4⟩ := and2 hx
    obtain ⟨h1, h2, h3⟩ := and3 hx
    have e1 : at_ = meNm m := of_decide_eq_true h1
    subst e1
    obtain ⟨m1, m2, m3⟩ := me_facts m
    have ok := es_ok xs _ h5
    refine PE.imp (pe_bm m1 m2 m3 (me_ok (fa := fa) m) (A.b _ h4) (C.es _ h5) (base_of h3) (few_ok ok (of_decide_eq_true h6)) h2 (args_hs ok) (args_pl ok)) fun σ H Q ⟨B, F, e, r, q⟩ => ?_
    have q' : XP X.K fa xa W B F σ (((evR G call a).b e).bind _) _ := q
    refine ⟨B, F, e, r, (q'.run (Le.refl F)).imp fun x e1 _ q1 F1 H1 v l1 r1 bv => ?_⟩
    cases z : x.res e1 with
    | none =>
      simp only [z] at q1
      exact q1.elim
    | some d0 =>
      simp only [z] at q1
      split at q1
      · rename_i ht
        refine ⟨meTy_ok ht (BV.cr r1 bv z), B, F1, e1, r1, (q1.run l1).imp fun bs e2 _ q2 F2 H2 vs l2 r2 bvs => ?_⟩
        split at q2
        · rename_i d ds z1 z2
          obtain ⟨y, hy, q3⟩ := XP.of q2
          exact ⟨B, F2, e2, σ, d, ds, y.1, y.2, r2, BV.cr r2 (BV.le l2 bv) z1, BVs.crs r2 bvs z2, hy, Fin.le (l1.trans l2) q3⟩
        · exact q2.elim
      · exact q1.elim
  · cases hx
theorem snd_mu (g : GoodE G fa xa call k lv X sc W) (m : Mu) (i : Nat) {xs : SE} (C : SndA G fa xa call lv X sc W xs) : SndA G fa xa call lv X sc W (.mu m i xs) := by
  refine Snd.ofPE (fun x ok hx => ?_) (fun x ok hx => by cases x <;> first | rfl | cases hx)
  split at hx
  · rename_i x p at_ ap es cp
    obtain ⟨hx, h5⟩ := and2 hx
    obtain ⟨hx, h4⟩ := and2 hx
    obtain ⟨h1, h2, h3⟩ := and3 hx
    have e1 : at_ = muNm m := of_decide_eq_true h1
    subst e1
    obtain ⟨m1, m2, m3⟩ := mu_facts m
    have ok := es_ok xs _ h4
    have hv : PE X (.Name x p) (tVar i) := slot_ok g h3
    have rd : ∀ {σ : L2.St} {H : Hp} {Q : VK}, rF X.K fa xa W (evR G call (.mu m i xs)).f σ H Q → ∃ v, σ[i]? = some (some v) ∧ tyV X.K "list" v H ∧ rBs X.K fa xa W (evR G call xs).bs σ H fun vs H1 => rMu X.K fa m i v vs H1 Q := fun {σ H Q} ⟨B, F, e, r, q⟩ => by
      have q' : XP X.K fa xa W B F σ (if muOk m e i = true then ((evR G call xs).bs e).bind _ else .st) _ := q
      by_cases hm : muOk m e i = true
      · rw [if_pos hm] at q'
        unfold muOk at hm
        split at hm
        · rename_i d hd
          obtain ⟨p, o, h1, h2, h3, h4, h5, hm'⟩ := r.ow (getD_ow hd)
          refine ⟨.ref p, h1, muTy_ok hm h2 h3, B, F, e, r, (q'.run (Le.refl F)).imp fun bs e1 _ q1 F1 H1 vs l1 r1 bv => ?_⟩
          split at q1
          · rename_i ds hds
            obtain ⟨F2, l2, r2, dr⟩ := SR.frzBs r1 bv hds
            split at q1
            · rename_i d2 hd2
              split at q1
              · rename_i d' rr hmu
                exact ⟨B, F2, _, σ, d2, ds, d', rr, r2, h1, getD_ow hd2, dr, hmu, Fin.le (l1.trans l2) q1⟩
              · exact q1.elim
            · exact q1.elim
          · exact q1.elim
        · cases hm
      · rw [if_neg hm] at q'
        exact q'.elim
    cases es with
    | nil =>
      refine PE.imp (pe_bm0 m1 m2 m3 (mu_ok (fa := fa) m i) hv rfl h2) fun σ H Q h => ?_
      obtain ⟨v, h1, h2, B, F, e, r, q⟩ := rd h
      rw [es_nil h4] at q
      exact ⟨v, h1, h2, q F H [] (Le.refl F) r (by simp only [BVs])⟩
    | cons y ys =>
      refine PE.imp (pe_bm m1 m2 m3 (mu_ok (fa := fa) m i) hv (C.es _ h4) rfl (few_ok ok (by have := of_decide_eq_true h5; simp at this; omega)) h2 (args_hs ok) (args_pl ok)) fun σ H Q h => ?_
      obtain ⟨v, h1, h2, h3⟩ := rd h
      exact ⟨v, h1, h2, h3⟩
  · cases hx
/-! ### ranges -/
theorem rng_walk {K : PySem.W.Frag} {F : Hp} : ∀ (n : Nat) (i : Int), (rngL i n).length = n ∧ ∀ j, j < n → (rngL i n)[j]? = some (.int (i + j))
  | 0, i => ⟨rfl, fun j h => absurd h (Nat.not_lt_zero _)⟩
  | n + 1, i => by
    obtain ⟨h1, h2⟩ := rng_walk (K := K) (F := F) n (i + 1)
    refine ⟨by simp [rngL, h1], fun j h => ?_⟩
    cases j with
    | zero => simp [rngL]
    | succ j =>
      have := h2 j (by omega)
      simp only [rngL, List.getElem?_cons_succ, this]
      congr 2
      omega
theorem rng_wd {K : PySem.W.Frag} {F : Hp} (n : Nat) (i : Int) : WalkD K fa (Itr i n) (rngL i n) F := by
  obtain ⟨h1, h2⟩ := rng_walk (K := K) (F := F) n i
  refine ⟨fun _ => True, _, by rw [h1]; exact walk_range, fun _ _ => True.intro, fun j H x H' B F1 e σ hj l r y => ?_⟩
  obtain ⟨e1, e2⟩ := y
  subst e1 e2
  exact ⟨F1, .int (i + j), h2 j (by omega), Le.refl F1, r, by simp only [DR]⟩
theorem smallI_ok {i : Int} (h : smallI i = true) : -(2 ^ 62) ≤ i ∧ i < 2 ^ 62 := by
  have h := Nat.le_of_ble_eq_true h
  exact ⟨by omega, by omega⟩
theorem sndI {A : Ev → R (List D)} {g : Expr → Bool} (h : ∀ tg x, g x = true → PI X tg x (rI X.K fa xa W A) ∧ okE x = true) : Snd G fa xa call X W { noR with i := A } { eNo with i := g } :=
  ⟨fun _ h => (nomatch h), fun _ h => (nomatch h), fun _ _ _ h => (nomatch h), fun _ h => (nomatch h), fun _ h => (nomatch h), fun _ h => (nomatch h), h, fun _ h => (nomatch h), fun _ h => (nomatch h)⟩
theorem snd_rng1 (g : GoodE G fa xa call k lv X sc W) {a : SE} (A : SndA G fa xa call lv X sc W a) : SndA G fa xa call lv X sc W (.rng1 a) := by
  refine sndI fun tg x hx => ?_
  split at hx
  · rename_i x p l pos
    obtain ⟨h1, h2, h3⟩ := and3 hx
    have e1 : x = "range" := of_decide_eq_true h1
    subst e1
    refine ⟨PI.imp (pi_range1 (gl_ok g h2) (g.facts.free _ (by decide)) (pa_cons (A.e _ h3) pa_nil (starE (A.ok _ h3))) (starE (A.ok _ h3))) fun σ H RR ⟨B, F, e, r, q⟩ => ?_, rfl⟩
    have q' : XP X.K fa xa W B F σ (((evR G call a).f e).bind _) _ := q
    refine ⟨B, F, e, r, (q'.run (Le.refl F)).imp fun y e1 hy q1 F1 H1 v l1 r1 fv => ?_⟩
    obtain ⟨d, fr⟩ := y
    cases d <;> try (exact q1.elim)
    rename_i j
    simp only at q1
    split at q1
    · rename_i hs
      obtain ⟨s1, s2⟩ := smallI_ok hs
      obtain ⟨F2, l2, r2, d2⟩ := r1.freeze fv
      simp only [DR] at d2
      subst d2
      exact ⟨j, rfl, s1, s2, q1 F2 H1 _ (l1.trans l2) r2 (rng_wd _ _)⟩
    · exact q1.elim
  · cases hx
theorem snd_rng2 (g : GoodE G fa xa call k lv X sc W) {a b : SE} (A : SndA G fa xa call lv X sc W a) (C : SndA G fa xa call lv X sc W b) : SndA G fa xa call lv X sc W (.rng2 a b) := by
  refine sndI fun tg x hx => ?_
  split at hx
  · rename_i x p l l' pos
    obtain ⟨hx, h4⟩ := and2 hx
    obtain ⟨h1, h2, h3⟩ := and3 hx
    have e1 : x = "range" := of_decide_eq_true h1
    subst e1
    have s2 : starEach [l'] X.env = [(false, eval l' X.env)] := starE (C.ok _ h4)
    have s1 : starEach [l, l'] X.env = [(false, eval l X.env), (false, eval l' X.env)] := by rw [starE (A.ok _ h3), s2]
    refine ⟨PI.imp (pi_range2 (gl_ok g h2) (g.facts.free _ (by decide)) (pa_cons (A.e _ h3) (pa_cons (C.e _ h4) pa_nil s2) (starE (A.ok _ h3))) s1 s2) fun σ H RR ⟨B, F, e, r, q⟩ => ?_, rfl⟩
    have q' : XP X.K fa xa W B F σ (((evR G call a).f e).bind _) _ := q
    refine ⟨B, F, e, r, (q'.run (Le.refl F)).imp fun y e1 hy q1 F1 H1 v l1 r1 fv => ?_⟩
    obtain ⟨F1', l1', r1', dv⟩ := r1.freeze fv
    refine ⟨B, F1', e1, r1', (q1.run (l1.trans l1')).imp fun z e2 hz q2 F2 H2 v' l2 r2 fv' => ?_⟩
    obtain ⟨F2', l2', r2', dv'⟩ := r2.freeze fv'
    obtain ⟨d, fr⟩ := y
    obtain ⟨d', fr'⟩ := z
    cases d <;> cases d' <;> try (exact q2.elim)
    rename_i i j
    simp only at q2
    split at q2
    · rename_i hs
      obtain ⟨hs1, hs2⟩ := and2 hs
      obtain ⟨s1, s2⟩ := smallI_ok hs1
      obtain ⟨s3, s4⟩ := smallI_ok hs2
      simp only [DR] at dv dv'
      subst dv dv'
      exact ⟨i, j, rfl, ⟨s1, s2, s3, s4⟩, q2 F2' H2 _ (((l1.trans l1').trans l2).trans l2') r2' (rng_wd _ _)⟩
    · exact q2.elim
  · cases hx
/-! list(range(..)), {} -/
theorem rng_DRs {K : PySem.W.Frag} {F : Hp} : ∀ (n : Nat) (i : Int), DRs K fa F (rngL i n) ((List.range n).map fun j : Nat => V.int (i + j))
  | 0, i => by simp [rngL, DRs]
  | n + 1, i => by
    rw [List.range_succ_eq_map, List.map_cons, List.map_map]
    refine DRs.cons (by simp [DR]) ?_
    have := rng_DRs (K := K) (F := F) n (i + 1)
    have e : ((fun j : Nat => V.int (i + j)) ∘ Nat.succ) = fun j : Nat => V.int (i + 1 + j) := by
      funext j
      show V.int (i + ((j + 1 : Nat) : Int)) = V.int (i + 1 + j)
      congr 1
      omega
    rw [e]
    exact this
theorem snd_lrng1 (g : GoodE G fa xa call k lv X sc W) {a : SE} (A : SndA G fa xa call lv X sc W a) : SndA G fa xa call lv X sc W (.lrng1 a) := by
  refine Snd.ofPE (fun x ok hx => ?_) (fun x ok hx => by replace hx := (and2 hx).2; cases x <;> first | rfl | cases hx)
  have hlv := (and2 hx).1
  replace hx := (and2 hx).2
  split at hx
  · rename_i y py x px l p1 p2
    obtain ⟨hx, h5⟩ := and2 hx
    obtain ⟨hx, h4⟩ := and2 hx
    obtain ⟨h1, h2, h3⟩ := and3 hx
    have e1 : y = "list" := of_decide_eq_true h1
    have e2 : x = "range" := of_decide_eq_true h3
    subst e1 e2
    refine PE.imp (pe_listRg (g.calm hlv) (gl_ok g h2) (g.facts.free _ (by decide)) (prg_1 (gl_ok g h4) (g.facts.free _ (by decide)) (A.e _ h5) (starE (A.ok _ h5))) (starE rfl)) fun σ H Q ⟨B, F, e, r, q⟩ => ?_
    have q' : XP X.K fa xa W B F σ (((evR G call a).f e).bind _) _ := q
    refine ⟨B, F, e, r, (q'.run (Le.refl F)).imp fun y e1 hy q1 F1 H1 v l1 r1 fv => ?_⟩
    obtain ⟨d, fr⟩ := y
    cases d <;> try (exact q1.elim)
    rename_i j
    simp only at q1
    split at q1
    · rename_i hs
      obtain ⟨F2, l2, r2, d2⟩ := r1.freeze fv
      simp only [DR] at d2
      subst d2
      have hs := Nat.le_of_ble_eq_true hs
      refine ⟨j, rfl, ⟨by omega, by omega, by omega, by omega, by omega⟩, fun p np => ?_⟩
      have q3 : Fin X.K fa B F e1 σ (.lst (rngL 0 j.toNat)) true Q := q1
      refine (Fin.le (l1.trans l2) q3).new r2 np ?_
      simp only [OR]
      refine ⟨_, rfl, ?_⟩
      have := rng_DRs (fa := fa) (K := X.K) (F := F2) j.toNat 0
      unfold rgV
      rw [Int.sub_zero]
      exact this
    · exact q1.elim
  · cases hx
theorem snd_lrng2 (g : GoodE G fa xa call k lv X sc W) {a b : SE} (A : SndA G fa xa call lv X sc W a) (C : SndA G fa xa call lv X sc W b) : SndA G fa xa call lv X sc W (.lrng2 a b) := by
  refine Snd.ofPE (fun x ok hx => ?_) (fun x ok hx => by replace hx := (and2 hx).2; cases x <;> first | rfl | cases hx)
  have hlv := (and2 hx).1
  replace hx := (and2 hx).2
  split at hx
  · rename_i y py x px l l' p1 p2
    obtain ⟨hx, h6⟩ := and2 hx
    obtain ⟨hx, h5⟩ := and2 hx
    obtain ⟨hx, h4⟩ := and2 hx
    obtain ⟨h1, h2, h3⟩ := and3 hx
    have e1 : y = "list" := of_decide_eq_true h1
    have e2 : x = "range" := of_decide_eq_true h3
    subst e1 e2
    have s2 : starEach [l'] X.env = [(false, eval l' X.env)] := starE (C.ok _ h6)
    have s1 : starEach [l, l'] X.env = [(false, eval l X.env), (false, eval l' X.env)] := by rw [starE (A.ok _ h5), s2]
    refine PE.imp (pe_listRg (g.calm hlv) (gl_ok g h2) (g.facts.free _ (by decide)) (prg_2 (gl_ok g h4) (g.facts.free _ (by decide)) (A.e _ h5) (C.e _ h6) (starE (A.ok _ h5)) s2 (by rw [s2]; rfl)) (starE rfl)) fun σ H Q ⟨B, F, e, r, q⟩ => ?_
    have q' : XP X.K fa xa W B F σ (((evR G call a).f e).bind _) _ := q
    refine ⟨B, F, e, r, (q'.run (Le.refl F)).imp fun y e1 hy q1 F1 H1 v l1 r1 fv => ?_⟩
    obtain ⟨F1', l1', r1', dv⟩ := r1.freeze fv
    refine ⟨B, F1', e1, r1', (q1.run (l1.trans l1')).imp fun z e2 hz q2 F2 H2 v' l2 r2 fv' => ?_⟩
    obtain ⟨F2', l2', r2', dv'⟩ := r2.freeze fv'
    obtain ⟨d, fr⟩ := y
    obtain ⟨d', fr'⟩ := z
    cases d <;> cases d' <;> try (exact q2.elim)
    rename_i i j
    simp only at q2
    split at q2
    · rename_i hs
      obtain ⟨hs1, hs2⟩ := and2 hs
      have hs1 := Nat.le_of_ble_eq_true hs1
      have hs2 := Nat.le_of_ble_eq_true hs2
      simp only [DR] at dv dv'
      subst dv dv'
      refine ⟨i, j, rfl, rfl, ⟨by omega, by omega, by omega, by omega, by omega⟩, fun p np => ?_⟩
      have q3 : Fin X.K fa B F e2 σ (.lst (rngL i (j - i).toNat)) true Q := q2
      refine (Fin.le (((l1.trans l1').trans l2).trans l2') q3).new r2' np ?_
      simp only [OR]
      exact ⟨_, rfl, rng_DRs _ _⟩
    · exact q2.elim
  · cases hx
theorem snd_dnew (g : GoodE G fa xa call k lv X sc W) : SndA G fa xa call lv X sc W .dnew := by
  refine Snd.ofPE (fun x ok hx => ?_) (fun x ok hx => by cases x <;> first | rfl | cases hx)
  split at hx
  · refine PE.imp pe_dnewK fun σ H Q ⟨B, F, e, r, q⟩ => fun p np => ?_
    have q3 : Fin X.K fa B F e σ (.dct [] []) true Q := q
    refine q3.new r np ?_
    simp only [OR]
    exact ⟨[], rfl, rfl, DRs.nil⟩
  · cases hx
end
end EV
/-! Targets; list comprehensions. -/
namespace EV
open PySem L2
/-! ### slots forgotten -/
theorem wipe_mem {σ : L2.St} {i : Nat} : ∀ {vs : List Nat}, i ∈ vs → i < σ.length → (wipe σ vs)[i]? = some none
  | v :: vs, h, hl => by
    unfold wipe
    by_cases hv : v = i
    · subst hv
      exact List.getElem?_set_self (by rw [wipe_length]; exact hl)
    · rw [List.getElem?_set_ne hv]
      rcases List.mem_cons.mp h with z | z
      · exact absurd z.symm hv
      · exact wipe_mem z hl
theorem wipe_ext {σ σ' : L2.St} {vs : List Nat} (hl : σ'.length = σ.length) (h : ∀ i, i ∉ vs → σ'[i]? = σ[i]?) : wipe σ' vs = wipe σ vs := by
  refine List.ext_getElem? fun i => ?_
  by_cases hi : i ∈ vs
  · by_cases hz : i < σ.length
    · rw [wipe_mem hi hz, wipe_mem hi (by rw [hl]; exact hz)]
    · rw [List.getElem?_eq_none (by rw [wipe_length]; omega), List.getElem?_eq_none (by rw [wipe_length]; omega)]
  · rw [wipe_out hi, wipe_out hi]
    exact h i hi
theorem wipeE_length (e : Ev) : ∀ vs : List Nat, (wipeE e vs).length = e.length
  | [] => rfl
  | v :: vs => by unfold wipeE; rw [List.length_set, wipeE_length e vs]
theorem wipeE_out {e : Ev} {i : Nat} : ∀ {vs : List Nat}, i ∉ vs → (wipeE e vs)[i]? = e[i]?
  | [], _ => rfl
  | v :: vs, h => by
    have h1 : v ≠ i := fun e => h (by rw [e]; exact List.mem_cons_self)
    have h2 : i ∉ vs := fun m => h (List.mem_cons_of_mem _ m)
    unfold wipeE
    rw [List.getElem?_set_ne h1]
    exact wipeE_out h2
theorem wipeE_mem {e : Ev} {i : Nat} {s : Sl} : ∀ {vs : List Nat}, i ∈ vs → (wipeE e vs)[i]? = some s → s = .no
  | v :: vs, h, q => by
    unfold wipeE at q
    by_cases hv : v = i
    · subst hv
      by_cases hl : v < (wipeE e vs).length
      · rw [List.getElem?_set_self hl] at q
        exact (Option.some.inj q).symm
      · rw [List.getElem?_eq_none (by simpa using hl)] at q
        cases q
    · rw [List.getElem?_set_ne hv] at q
      rcases List.mem_cons.mp h with z | z
      · exact absurd z.symm hv
      · exact wipeE_mem z q
theorem putBack_length (e e0 : Ev) : ∀ vs : List Nat, (putBack e e0 vs).length = e.length
  | [] => rfl
  | v :: vs => by unfold putBack; rw [List.length_set, putBack_length e e0 vs]
theorem putBack_out {e e0 : Ev} {i : Nat} : ∀ {vs : List Nat}, i ∉ vs → (putBack e e0 vs)[i]? = e[i]?
  | [], _ => rfl
  | v :: vs, h => by
    have h1 : v ≠ i := fun e => h (by rw [e]; exact List.mem_cons_self)
    have h2 : i ∉ vs := fun m => h (List.mem_cons_of_mem _ m)
    unfold putBack
    rw [List.getElem?_set_ne h1]
    exact putBack_out h2
theorem putBack_mem {e e0 : Ev} {i : Nat} {s : Sl} : ∀ {vs : List Nat}, i ∈ vs → (putBack e e0 vs)[i]? = some s → s = e0.getD i .no
  | v :: vs, h, q => by
    unfold putBack at q
    by_cases hv : v = i
    · subst hv
      by_cases hl : v < (putBack e e0 vs).length
      · rw [List.getElem?_set_self hl] at q
        exact (Option.some.inj q).symm
      · rw [List.getElem?_eq_none (by simpa using hl)] at q
        cases q
    · rw [List.getElem?_set_ne hv] at q
      rcases List.mem_cons.mp h with z | z
      · exact absurd z.symm hv
      · exact putBack_mem z q
section
variable {K : PySem.W.Frag} {fa xa : Nat → Addr} {W : WX} {B : Bs} {F F' H H' : Hp} {e : Ev} {σ : L2.St}
theorem SR.wipe (r : SR K fa B F e σ H) (hi : B.ios = []) (vs : List Nat) : SR K fa B F (wipeE e vs) (L2.wipe σ vs) H := by
  have ow : ∀ {i : Nat} {d : D}, (wipeE e vs)[i]? = some (.ow d) → i ∉ vs ∧ e[i]? = some (.ow d) ∧ (L2.wipe σ vs)[i]? = σ[i]? := fun {i d} q => by
    by_cases h : i ∈ vs
    · have := wipeE_mem h q
      cases this
    · exact ⟨h, by rw [wipeE_out h] at q; exact q, wipe_out h⟩
  refine ⟨r.sub, r.mono, r.fresh, r.keep, r.io, ?_, ?_, fun i s w q1 q2 => ?_, fun i d a q1 q2 => ?_, fun i j d d' a q1 q2 q3 q4 => ?_⟩
  · rw [hi]
    exact fun _ h => nomatch h
  · rw [wipeE_length, wipe_length, r.len]
  · by_cases h : i ∈ vs
    · have := wipeE_mem h q1
      subst this
      exact True.intro
    · rw [wipeE_out h] at q1
      rw [wipe_out h] at q2
      exact r.sl i s w q1 q2
  · obtain ⟨_, h1, h2⟩ := ow q1
    rw [h2] at q2
    exact r.own i d a h1 q2
  · obtain ⟨_, h1, h2⟩ := ow q1
    obtain ⟨_, h3, h4⟩ := ow q2
    rw [h2] at q3
    rw [h4] at q4
    exact r.inj i j d d' a h1 h3 q3 q4
theorem owns_wipe {vs : List Nat} {a : Addr} (h : a ∈ owns (wipeE e vs) (L2.wipe σ vs)) : a ∈ owns e σ ∧ ∃ i d, i ∉ vs ∧ e[i]? = some (.ow d) ∧ σ[i]? = some (some (.ref a)) := by
  obtain ⟨i, d, q1, q2⟩ := mem_owns.mp h
  by_cases hm : i ∈ vs
  · have := wipeE_mem hm q1
    cases this
  · rw [wipeE_out hm] at q1
    rw [wipe_out hm] at q2
    exact ⟨mem_owns.mpr ⟨i, d, q1, q2⟩, i, d, hm, q1, q2⟩
/-- an object that nobody of the state holds changes -/
theorem SR.other (r : SR K fa B F e σ H) {p : Addr} {o : HO} (hf : F p = none) (hb : B.H p = none) (hio : p ∉ B.IO) (ho : ∀ (i : Nat) (d : D), e[i]? = some (.ow d) → σ[i]? ≠ some (some (.ref p))) : SR K fa B F e σ (upd H p o) := by
  have ne : ∀ {a : Addr}, a ≠ p → upd H p o a = H a := fun {a} h => upd_ne h
  refine ⟨fun a u q => ?_, r.mono, r.fresh, fun a u q z => ?_, fun a z => ?_, r.ios, r.len, fun i s w q1 q2 => ?_, r.own, r.inj⟩
  · rw [ne (fun z => by subst z; rw [hf] at q; cases q)]
    exact r.sub a u q
  · rw [ne (fun z => by subst z; rw [hb] at q; cases q)]
    exact r.keep a u q z
  · rw [ne (fun y => by subst y; exact hio z)]
    exact r.io a z
  · refine (r.sl i s w q1 q2).le (Le.refl F) (fun d a u es ew q => ?_) fun d a es ew => ?_
    · subst es ew
      rw [ne (fun y => by subst y; exact ho i d q1 q2)]
      exact q
    · subst es ew
      obtain ⟨_, a', u, g1, _, _, g4⟩ := r.sl i _ _ q1 q2
      cases g1
      exact g4
/-- behind a comprehension's block -/
theorem SR.behind {e2 : Ev} {vs : List Nat} (r1 : SR K fa B F e σ H) (r2 : SR K fa (here F H (wipeE e vs) (L2.wipe σ vs)) F' e2 (L2.wipe σ vs) H') : SR K fa B F' (putBack e2 e vs) σ H' := by
  have sl0 : ∀ {i : Nat} {s : Sl}, i ∈ vs → (putBack e2 e vs)[i]? = some s → s ≠ .no → e[i]? = some s := fun {i s} hi q hn => by
    have q' := putBack_mem hi q
    cases z : e[i]? with
    | none =>
      rw [List.getD_eq_getElem?_getD, z] at q'
      exact absurd q' hn
    | some u =>
      rw [getD_some z] at q'
      rw [q']
  have notIO : ∀ {i : Nat} {d : D} {a : Addr}, i ∈ vs → e[i]? = some (.ow d) → σ[i]? = some (some (.ref a)) → a ∉ (here F H (wipeE e vs) (L2.wipe σ vs)).IO := fun {i d a} hi q1 q2 h => by
    obtain ⟨_, j, d', hj, g1, g2⟩ := owns_wipe h
    have := r1.inj i j d d' a q1 g1 q2 g2
    subst this
    exact hj hi
  have up : ∀ a, (here F H (wipeE e vs) (L2.wipe σ vs)).H a = none ∨ a ∈ (here F H (wipeE e vs) (L2.wipe σ vs)).IO → H a = none ∨ a ∈ owns e σ := fun a z => z.elim .inl fun z => .inr (owns_wipe z).1
  refine SR.back r1 (e' := putBack e2 e vs) (σ' := σ) ⟨r2.sub, r2.mono, fun a o q1 q2 => up a (r2.fresh a o q1 q2), fun a o q z => r2.keep a o q fun y => z (owns_wipe y).1, fun a z => ?_, fun _ h => (nomatch h), ?_, fun i s w q1 q2 => ?_, fun i d a q1 q2 => ?_, fun i j d d' a q1 q2 q3 q4 => ?_⟩ r1.ios
  · by_cases hm : a ∈ (here F H (wipeE e vs) (L2.wipe σ vs)).IO
    · exact r2.io a hm
    · obtain ⟨i, d, g1, g2⟩ := mem_owns.mp z
      obtain ⟨a', o, h1, h2, _⟩ := r1.ow g1
      rw [g2] at h1
      cases h1
      exact ⟨o, r2.keep a o h2 hm⟩
  · rw [putBack_length, r2.len, wipe_length]
  · by_cases hi : i ∈ vs
    · by_cases hn : s = .no
      · subst hn
        exact True.intro
      · have g := sl0 hi q1 hn
        refine (r1.sl i s w g q2).le r2.mono (fun d a o es ew q => ?_) fun d a es ew => ?_
        · subst es ew
          exact r2.keep a o q (notIO hi g q2)
        · subst es ew
          obtain ⟨_, a', o, g1, g2, _, g4⟩ := r1.sl i _ _ g q2
          cases g1
          cases y : F' a with
          | none => rfl
          | some o' =>
            rcases r2.fresh a o' y g4 with z | z
            · have z' : H a = none := z
              rw [g2] at z'
              cases z'
            · exact absurd z (notIO hi g q2)
    · rw [putBack_out hi] at q1
      rw [← wipe_out hi] at q2
      exact r2.sl i s w q1 q2
  · by_cases hi : i ∈ vs
    · exact .inr (mem_owns.mpr ⟨i, d, sl0 hi q1 (fun z => nomatch z), q2⟩)
    · rw [putBack_out hi] at q1
      rw [← wipe_out hi] at q2
      exact up a (r2.own i d a q1 q2)
  · have mix : ∀ {i j : Nat} {d d' : D}, i ∈ vs → j ∉ vs → (putBack e2 e vs)[i]? = some (.ow d) → (putBack e2 e vs)[j]? = some (.ow d') → σ[i]? = some (some (.ref a)) → σ[j]? = some (some (.ref a)) → False := fun {i j d d'} hi hj q1 q2 q3 q4 => by
      have g := sl0 hi q1 (fun z => nomatch z)
      rw [putBack_out hj] at q2
      rw [← wipe_out hj] at q4
      rcases r2.own j d' a q2 q4 with z | z
      · obtain ⟨a', o, h1, h2, _⟩ := r1.ow g
        rw [q3] at h1
        cases h1
        have z' : H a = none := z
        rw [h2] at z'
        cases z'
      · exact notIO hi g q3 z
    by_cases hi : i ∈ vs <;> by_cases hj : j ∈ vs
    · exact r1.inj i j d d' a (sl0 hi q1 (fun z => nomatch z)) (sl0 hj q2 (fun z => nomatch z)) q3 q4
    · exact (mix hi hj q1 q2 q3 q4).elim
    · exact (mix hj hi q2 q1 q4 q3).elim
    · rw [putBack_out hi] at q1
      rw [putBack_out hj] at q2
      rw [← wipe_out hi] at q3
      rw [← wipe_out hj] at q4
      exact r2.inj i j d d' a q1 q2 q3 q4
/-! ### targets -/
def gTs : List Nat → TGs
  | [] => gNil
  | i :: is => gCons (gName i) (gTs is)
def gT (K : PySem.W.Frag) : Tg → TG
  | .nm i => gName i
  | .tp is => gTup K is.length (gTs is)
def tgIx : Tg → List Nat
  | .nm i => [i]
  | .tp is => is
theorem gTs_ok {Q : L2.St → Hp → Prop} : ∀ {is : List Nat} {ds : List D} {vs : List V} {e e' : Ev} {σ : L2.St}, SR K fa B F e σ H → DRs K fa F ds vs → setAll is ds e = some e' → (∀ p ∈ B.ios, p.1 ∉ is) →
    (∀ σ', SR K fa B F e' σ' H → σ'.length = σ.length → (∀ j, j ∉ is → σ'[j]? = σ[j]?) → Q σ' H) → gTs is vs σ H Q
  | [], [], vs, e, e', σ, r, h, q, hi, k => by
    simp only [DRs] at h
    simp only [setAll] at q
    cases q
    exact ⟨h, k σ r rfl fun _ _ => rfl⟩
  | [], d :: ds, vs, e, e', σ, r, h, q, hi, k => by
    simp only [setAll] at q
    cases q
  | i :: is, [], vs, e, e', σ, r, h, q, hi, k => by
    simp only [setAll] at q
    cases q
  | i :: is, d :: ds, vs, e, e', σ, r, h, q, hi, k => by
    simp only [DRs] at h
    obtain ⟨v, rr, e1, h1, h2⟩ := h
    simp only [setAll] at q
    refine ⟨v, rr, e1, ?_⟩
    have r1 := r.asgSh (i := i) (fun p hp z => hi p hp (by rw [z]; exact List.mem_cons_self)) h1
    refine gTs_ok r1 h2 q (fun p hp z => hi p hp (List.mem_cons_of_mem _ z)) fun σ' r2 hl hs => k σ' r2 (by rw [hl, List.length_set]) fun j hj => ?_
    rw [hs j fun z => hj (List.mem_cons_of_mem _ z), List.getElem?_set_ne fun z => hj (by rw [z]; exact List.mem_cons_self)]
theorem setAll_len : ∀ {is : List Nat} {ds : List D} {e e' : Ev}, setAll is ds e = some e' → is.length = ds.length
  | [], [], _, _, _ => rfl
  | [], _ :: _, _, _, q => by
    simp only [setAll] at q
    cases q
  | _ :: _, [], _, _, q => by
    simp only [setAll] at q
    cases q
  | i :: is, d :: ds, e, e', q => by
    simp only [setAll] at q
    rw [List.length_cons, List.length_cons, setAll_len q]
theorem gT_ok {Q : L2.St → Hp → Prop} {tg : Tg} {d : D} {v : V} {e' : Ev} (r : SR K fa B F e σ H) (h : DR K fa F d v) (q : tgD tg d e = some e') (hi : ∀ p ∈ B.ios, p.1 ∉ tgIx tg)
    (k : ∀ σ', SR K fa B F e' σ' H → σ'.length = σ.length → (∀ j, j ∉ tgIx tg → σ'[j]? = σ[j]?) → Q σ' H) : gT K tg v σ H Q := by
  cases tg with
  | nm i =>
    simp only [tgD] at q
    cases q
    refine k _ (r.asgSh (fun p hp z => hi p hp (by rw [z]; exact List.mem_cons_self)) h) (List.length_set) fun j hj => ?_
    exact List.getElem?_set_ne fun z => hj (by rw [z]; exact List.mem_cons_self)
  | tp is =>
    simp only [tgD] at q
    cases d <;> try (cases q)
    rename_i ds
    simp only [DR] at h
    obtain ⟨a, vs, e1, h1, h2⟩ := h
    have q' : setAll is ds e = some e' := q
    exact ⟨a, vs, e1, SqT.le r.sub h1, by rw [← DRs.length h2, setAll_len q'], gTs_ok r h2 q' hi k⟩
end
section
variable {X : Cx} {sc : Scope}
theorem st_ok {fb : Str → Bool} (hs : X.env.scope = sc) (hfb : ∀ x, fb x = true → X.fn x = true) {x : Str} (h : stB sc fb x = true) : Loc X.env.scope x ∧ (X.fn x = true ∨ X.env.scope.names.lookup x = some .local) := by
  rw [hs]
  unfold stB at h
  rcases Bool.or_eq_true_iff.mp h with h | h
  · unfold locB at h
    split at h
    · rename_i hl
      exact ⟨.inl hl, .inr hl⟩
    · cases h
  · obtain ⟨h1, h2⟩ := and2 h
    unfold celB at h1
    split at h1
    · rename_i hl
      exact ⟨.inr hl, .inl (hfb x h2)⟩
    · cases h1
theorem tgs_pg {fb : Str → Bool} (hs : X.env.scope = sc) (hfb : ∀ x, fb x = true → X.fn x = true) (hN : X.N.Nodup) : ∀ {is : List Nat} {es : List Expr}, tgB.tgs X.N sc fb is es = true → PGs X es (gTs is) ∧ (assignEach es X.env).length = is.length ∧ (assignEach es X.env).findIdx? (·.1) = none
  | [], [], _ => ⟨pgs_nil, rfl, rfl⟩
  | [], _ :: _, h => by cases h
  | _ :: _, [], h => by cases h
  | i :: is, e :: es, h => by
    cases e <;> try (cases h)
    rename_i x p
    obtain ⟨h1, h2, h3⟩ := and3 h
    obtain ⟨l1, l2⟩ := st_ok hs hfb h2
    obtain ⟨g1, g2, g3⟩ := tgs_pg hs hfb hN h3
    refine ⟨pgs_cons (pg_name hN (of_decide_eq_true h1) l1 l2) g1, ?_, ?_⟩
    · show (assignEach es X.env).length + 1 = is.length + 1
      rw [g2]
    · show List.findIdx? (·.1) ((false, assign (.Name x p) X.env) :: assignEach es X.env) = none
      rw [List.findIdx?_cons]
      show (if false = true then some 0 else Option.map (· + 1) (List.findIdx? (·.1) (assignEach es X.env))) = none
      rw [if_neg Bool.false_ne_true, g3]
      rfl
theorem tg_pg {fb : Str → Bool} (hs : X.env.scope = sc) (hfb : ∀ x, fb x = true → X.fn x = true) (hN : X.N.Nodup) (hc : X.calm = true) {tg : Tg} {x : Expr} (h : tgB X.N sc fb tg x = true) : PG X x (gT X.K tg) := by
  cases tg with
  | nm i =>
    cases x <;> try (cases h)
    obtain ⟨h1, h2⟩ := and2 h
    obtain ⟨l1, l2⟩ := st_ok hs hfb h2
    exact pg_name hN (of_decide_eq_true h1) l1 l2
  | tp is =>
    cases x <;> try (cases h)
    rename_i es n p
    obtain ⟨g1, g2, g3⟩ := tgs_pg hs hfb hN (show tgB.tgs X.N sc fb is es = true from h)
    exact pg_tup hc g1 g2 g3
end
end EV
/-! List comprehensions by the evaluator; every expression. -/
namespace EV
open PySem L2
abbrev W0 : WX := fun _ _ _ _ => False
section
variable {G : Cfg} {fa xa : Nat → Addr} {call : Nat → List Sl → FR} {k : Nat} {lv : Bool} {X : Cx} {sc : Scope} {W : WX}
theorem tgIn_ix {vs : List Nat} {tg : Tg} (h : tgIn vs tg = true) : ∀ i ∈ tgIx tg, i ∈ vs := by
  cases tg with
  | nm i =>
    intro j hj
    have e : j = i := by simpa [tgIx] using hj
    subst e
    exact of_decide_eq_true h
  | tp is =>
    intro j hj
    exact of_decide_eq_true (List.all_eq_true.mp (show (is.all fun i => decide (i ∈ vs)) = true from h) j hj)
/-- the reading of a comprehension -/
theorem comp_rd {f : Ev → R (List D)} {t : Ev → R Bool} {l : Ev → R (D × Bool)} {tg : Tg} {vs : List Nat} {σ : L2.St} {H : Hp} {Q : VK} (hin : tgIn vs tg = true)
    (h : rF X.K fa xa W (fun e => (f e).bind fun ds e1 => (compL vs tg t l ds [] e1).bind fun ys e2 => .ok (.lst ys, true) (putBack e2 e1 vs)) σ H Q) :
    tLc (rI X.K fa xa W f) (gT X.K tg) (rT X.K fa xa W0 t) (rF X.K fa xa W0 l) vs σ H Q := by
  obtain ⟨B, F, e, r, q⟩ := h
  refine ⟨B, F, e, r, (q.run (Le.refl F)).imp fun ds e1 _ q1 F1 H1 J l1 r1 wd D hD => ?_⟩
  obtain ⟨Gp, Y, wk, hg, hy⟩ := wd
  cases hc : compL vs tg t l ds [] e1 with
  | st =>
    rw [hc] at q1
    exact q1.elim
  | er c e2 =>
    exfalso
    have ne : ∀ (ds acc : List EV.D) (e : Ev) (c : Nat) (e2 : Ev), compL vs tg t l ds acc e ≠ .er c e2 := fun ds => by
      induction ds with
      | nil => exact fun acc e c e2 z => nomatch z
      | cons d ds ih =>
        intro acc e c e2 z
        unfold compL at z
        split at z
        · cases z
        · split at z
          · split at z
            · split at z
              · exact ih _ _ _ _ z
              · cases z
            · cases z
          · exact ih _ _ _ _ z
          · cases z
    exact ne _ _ _ _ _ hc
  | ok ys e2 =>
    rw [hc] at q1
    have fin : Fin X.K fa B F (putBack e2 e1 vs) σ (.lst ys) true Q := q1
    have rw1 : SR X.K fa (here F1 H1 (wipeE e1 vs) (L2.wipe σ vs)) F1 (wipeE e1 vs) (L2.wipe σ vs) H1 := ((r1.rebase).wipe rfl vs).rebase
    obtain ⟨dF, dB, dIO⟩ := rw1.none_of hD
    have dow : ∀ {e : Ev} {σ : L2.St} {B : Bs} {F : Hp}, SR X.K fa B F e σ H1 → ∀ (i : Nat) (d : EV.D), e[i]? = some (.ow d) → σ[i]? ≠ some (some (.ref D)) := fun {e σ B F} r i d g z => by
      obtain ⟨a, o, h1, h2, _⟩ := r.ow g
      rw [z] at h1
      cases h1
      rw [hD] at h2
      cases h2
    refine lc_it wk (fun i H => ∃ F2 e acc avs, Le F1 F2 ∧ SR X.K fa (here F1 H1 (wipeE e1 vs) (L2.wipe σ vs)) F2 (wipeE e vs) (L2.wipe σ vs) H ∧ H D = some (.lst avs) ∧ F2 D = none ∧ DRs X.K fa F2 acc avs ∧
      (∀ (i : Nat) (d : EV.D), (wipeE e vs)[i]? = some (.ow d) → (L2.wipe σ vs)[i]? ≠ some (some (.ref D))) ∧ compL vs tg t l (ds.drop i) acc e = .ok ys e2) ?_ ?_ ?_ ?_
    · exact ⟨F1, e1, [], [], Le.refl F1, rw1.other dF dB dIO (dow rw1), upd_same, dF, DRs.nil, dow rw1, by rw [List.drop_zero]; exact hc⟩
    · rintro i H2 _ ⟨F2, e, acc, avs, l2, r2, _⟩
      exact hg H2 (l2.trans r2.sub)
    · rintro i x H2 H3 hi ⟨F2, e, acc, avs, l2, r2, hDv, fD, dacc, nD, hcl⟩ y
      have rt := r2.rebase
      obtain ⟨F3, d, hd, l3, r3, dr⟩ := hy i H2 x H3 _ F2 _ _ hi l2 rt y
      have hdrop : ds.drop i = d :: ds.drop (i + 1) := by
        obtain ⟨hlt, hv⟩ := List.getElem?_eq_some_iff.mp hd
        rw [List.drop_eq_getElem_cons hlt, hv]
      rw [hdrop] at hcl
      unfold compL at hcl
      -- D stays as it is within the turn
      have notIO : D ∉ (here F2 H2 (wipeE e vs) (L2.wipe σ vs)).IO := fun z => by
        obtain ⟨i, d, q1, q2⟩ := mem_owns.mp z
        exact nD i d q1 q2
      have keepD : ∀ {F e σ' H}, SR X.K fa (here F2 H2 (wipeE e1 vs) (L2.wipe σ vs)) F e σ' H → True := fun _ => True.intro
      have stay : ∀ {F' : Hp} {e' : Ev} {σ' : L2.St} {H' : Hp}, SR X.K fa (here F2 H2 (wipeE e vs) (L2.wipe σ vs)) F' e' σ' H' → H' D = some (.lst avs) ∧ F' D = none ∧ ∀ (i : Nat) (d : EV.D), e'[i]? = some (.ow d) → σ'[i]? ≠ some (some (.ref D)) := fun {F' e' σ' H'} r' => by
        have hHD : (here F2 H2 (wipeE e vs) (L2.wipe σ vs)).H D = some (.lst avs) := hDv
        refine ⟨r'.keep D _ hHD notIO, ?_, fun i d q1 q2 => ?_⟩
        · cases z : F' D with
          | none => rfl
          | some o =>
            rcases r'.fresh D o z fD with y | y
            · rw [hHD] at y
              cases y
            · exact absurd y notIO
        · rcases r'.own i d D q1 q2 with y | y
          · rw [hHD] at y
            cases y
          · exact notIO y
      split at hcl
      · cases hcl
      · rename_i e' htg
        refine gT_ok r3 dr htg (fun _ h => nomatch h) fun σ2 r4 hl hs => ?_
        have hw : L2.wipe σ2 vs = L2.wipe σ vs := by
          refine wipe_ext (by rw [hl, wipe_length]) fun j hj => ?_
          rw [hs j fun z => hj (tgIn_ix hin j z), wipe_out hj]
        refine ⟨hw, _, F3, e', r4, ?_⟩
        -- the turn's end
        have done : ∀ {F' : Hp} {e'' : Ev} {H' : Hp} {acc' : List EV.D} {avs' : List V}, Le F3 F' → SR X.K fa (here F2 H2 (wipeE e vs) (L2.wipe σ vs)) F' e'' σ2 H' → DRs X.K fa F' acc' avs' → compL vs tg t l (ds.drop (i + 1)) acc' e'' = .ok ys e2 →
            SR X.K fa (here F1 H1 (wipeE e1 vs) (L2.wipe σ vs)) F' (wipeE e'' vs) (L2.wipe σ vs) H' ∧ Le F1 F' := fun {F' e'' H' acc' avs'} l4 r5 _ _ => by
          have r6 := r5.wipe rfl vs
          rw [hw] at r6
          exact ⟨r2.back r6 (fun _ h => nomatch h), (l2.trans l3).trans l4⟩
        split at hcl
        · rename_i e3 ht
          rw [ht]
          intro F4 H4 l4 r5
          rw [if_pos rfl]
          refine ⟨_, F4, e3, r5, ?_⟩
          split at hcl
          · rename_i y e4 hl'
            rw [hl']
            intro F5 H5 v l5 r6 fv
            obtain ⟨F6, l6, r7, dv⟩ := r6.freeze fv
            obtain ⟨hDv', fD', nD'⟩ := stay r7
            split at hcl
            · rename_i hlen
              have dacc' : DRs X.K fa F6 acc avs := DRs.le (((l3.trans l4).trans l5).trans l6) _ _ dacc
              have dnew : DRs X.K fa F6 (acc ++ [y.1]) (avs ++ [v]) := DRs.append dacc' (DRs.cons dv DRs.nil)
              obtain ⟨r8, l8⟩ := done ((l4.trans l5).trans l6) r7 dnew hcl
              have nD8 : ∀ (i : Nat) (d : EV.D), (wipeE e4 vs)[i]? = some (.ow d) → (L2.wipe σ vs)[i]? ≠ some (some (.ref D)) := fun i d q1 q2 => by
                by_cases hm : i ∈ vs
                · have := wipeE_mem hm q1
                  cases this
                · rw [wipeE_out hm] at q1
                  rw [← hw, wipe_out hm] at q2
                  exact nD' i d q1 q2
              refine ⟨avs, hDv', by rw [← DRs.length dacc]; exact of_decide_eq_true hlen, F6, e4, acc ++ [y.1], avs ++ [v], l8, r8.other fD' dB dIO nD8, upd_same, fD', dnew, nD8, hcl⟩
            · cases hcl
          · cases hcl
        · rename_i e3 ht
          rw [ht]
          intro F4 H4 l4 r5
          rw [if_neg Bool.false_ne_true]
          obtain ⟨hDv', fD', nD'⟩ := stay r5
          have dacc' : DRs X.K fa F4 acc avs := DRs.le (l3.trans l4) _ _ dacc
          obtain ⟨r8, l8⟩ := done l4 r5 dacc' hcl
          refine ⟨F4, e3, acc, avs, l8, r8, hDv', fD', dacc', fun i d q1 q2 => ?_, hcl⟩
          by_cases hm : i ∈ vs
          · have := wipeE_mem hm q1
            cases this
          · rw [wipeE_out hm] at q1
            rw [← hw, wipe_out hm] at q2
            exact nD' i d q1 q2
        · cases hcl
    · rintro H2 ⟨F2, e, acc, avs, l2, r2, hDv, fD, dacc, nD, hcl⟩
      rw [List.drop_length] at hcl
      unfold compL at hcl
      cases hcl
      refine fin F2 H2 (.ref D) (l1.trans l2) (r1.behind r2) (FV.mk hDv (by simp only [OR]; exact ⟨avs, rfl, dacc⟩) fD (.inl (r1.none_of hD).2.1) fun i d' q1 q2 => ?_)
      by_cases hm : i ∈ vs
      · have q3 := putBack_mem hm q1
        cases z : e1[i]? with
        | none =>
          rw [List.getD_eq_getElem?_getD, z] at q3
          cases q3
        | some u =>
          rw [getD_some z] at q3
          subst q3
          exact dow r1 i d' z q2
      · rw [putBack_out hm] at q1
        rw [← wipe_out hm] at q2
        exact nD i d' q1 q2
/-- a dict's comprehension over a walk -/
theorem dc_it {J : It} {n : Nat} {Gp : Hp → Prop} {Y : Nat → Hp → V → Hp → Prop} (w : L2.Walk J n Gp Y) {g : TG} {tt : TT} {tk tv : TE} {vs : List Nat} {σ : L2.St} {H1 : Hp} {D : Addr} {Qd : Hp → Prop} (Pv : Nat → Hp → Prop) (h0 : Pv 0 (upd H1 D (.dK []))) (hG : ∀ i H, i ≤ n → Pv i H → Gp H)
    (hs : ∀ i x H H', i < n → Pv i H → Y i H x H' → g x (L2.wipe σ vs) H' fun σ2 H2 => L2.wipe σ2 vs = L2.wipe σ vs ∧ tt σ2 H2 fun b H3 =>
      if b = true then tk σ2 H3 fun y H4 => tv σ2 H4 fun z H5 => ∃ kvs k, y = kV k ∧ H5 D = some (.dK kvs) ∧ kvs.length < sizeLine ∧ Pv (i + 1) (upd H5 D (.dK (putK kvs k z))) else Pv (i + 1) H3) (hd : ∀ H, Pv n H → Qd H) :
    ∃ W : Nat → Nat → Hp → Prop, (∃ m, W 0 m (upd H1 D (.dK []))) ∧ ∀ i m H, W i m H →
      (J.stop i H ∧ Qd H) ∨ (J.go i H ∧ ∃ Nx : Hp → Prop, (∀ H', Nx H' → ∃ m', m' < m ∧ W (i + 1) m' H') ∧ ∀ x H', J.yld i H x H' → g x (L2.wipe σ vs) H' fun σ2 H2 => L2.wipe σ2 vs = L2.wipe σ vs ∧ tt σ2 H2 fun b H3 =>
        if b = true then tk σ2 H3 fun y H4 => tv σ2 H4 fun z H5 => ∃ kvs k, y = kV k ∧ H5 D = some (.dK kvs) ∧ kvs.length < sizeLine ∧ Nx (upd H5 D (.dK (putK kvs k z))) else Nx H3) := by
  refine ⟨fun i m H => m = n - i ∧ i ≤ n ∧ Pv i H, ⟨n, by simp, Nat.zero_le _, h0⟩, ?_⟩
  rintro i m H ⟨rfl, hi, p⟩
  have q := hG i H hi p
  by_cases hlt : i < n
  · exact .inr ⟨w.goes i H hlt q, Pv (i + 1), fun H' p' => ⟨n - (i + 1), by omega, rfl, hlt, p'⟩, fun x H' y => hs i x H H' hlt p (w.yields i H x H' hlt q y)⟩
  · have e : i = n := by omega
    subst e
    exact .inl ⟨w.stops H q, hd H p⟩
theorem dcompL_er {vs : List Nat} {tg : Tg} {t : Ev → R Bool} {kf vf : Ev → R (EV.D × Bool)} : ∀ (ds ks ws : List EV.D) (e : Ev) (c : Nat) (e2 : Ev), dcompL vs tg t kf vf ds ks ws e ≠ .er c e2
  | [], ks, ws, e, c, e2 => fun z => nomatch z
  | d :: ds, ks, ws, e, c, e2 => fun z => by
    unfold dcompL at z
    split at z
    · cases z
    · split at z
      · split at z
        · split at z
          · split at z
            · exact dcompL_er ds _ _ _ _ _ z
            · cases z
          · cases z
        · cases z
      · exact dcompL_er ds _ _ _ _ _ z
      · cases z
/-- the reading of a dict's comprehension -/
theorem dcomp_rd {f : Ev → R (List D)} {t : Ev → R Bool} {kf vf : Ev → R (D × Bool)} {tg : Tg} {vs : List Nat} {σ : L2.St} {H : Hp} {Q : VK} (hin : tgIn vs tg = true)
    (h : rF X.K fa xa W (fun e => (f e).bind fun ds e1 => (dcompL vs tg t kf vf ds [] [] e1).bind fun ys e2 => .ok (.dct ys.1 ys.2, true) (putBack e2 e1 vs)) σ H Q) :
    tDc (rI X.K fa xa W f) (gT X.K tg) (rT X.K fa xa W0 t) (rF X.K fa xa W0 kf) (rF X.K fa xa W0 vf) vs σ H Q := by
  obtain ⟨B, F, e, r, q⟩ := h
  refine ⟨B, F, e, r, (q.run (Le.refl F)).imp fun ds e1 _ q1 F1 H1 J l1 r1 wd D hD => ?_⟩
  obtain ⟨Gp, Y, wk, hg, hy⟩ := wd
  cases hc : dcompL vs tg t kf vf ds [] [] e1 with
  | st =>
    rw [hc] at q1
    exact q1.elim
  | er c e2 => exact absurd hc (dcompL_er _ _ _ _ _ _)
  | ok ys e2 =>
    rw [hc] at q1
    have fin : Fin X.K fa B F (putBack e2 e1 vs) σ (.dct ys.1 ys.2) true Q := q1
    have rw1 : SR X.K fa (here F1 H1 (wipeE e1 vs) (L2.wipe σ vs)) F1 (wipeE e1 vs) (L2.wipe σ vs) H1 := ((r1.rebase).wipe rfl vs).rebase
    obtain ⟨dF, dB, dIO⟩ := rw1.none_of hD
    have dow : ∀ {e : Ev} {σ : L2.St} {B : Bs} {F : Hp}, SR X.K fa B F e σ H1 → ∀ (i : Nat) (d : EV.D), e[i]? = some (.ow d) → σ[i]? ≠ some (some (.ref D)) := fun {e σ B F} r i d g z => by
      obtain ⟨a, o, h1, h2, _⟩ := r.ow g
      rw [z] at h1
      cases h1
      rw [hD] at h2
      cases h2
    refine dc_it wk (fun i H => ∃ F2 e ks ws kvs, Le F1 F2 ∧ SR X.K fa (here F1 H1 (wipeE e1 vs) (L2.wipe σ vs)) F2 (wipeE e vs) (L2.wipe σ vs) H ∧ H D = some (.dK kvs) ∧ F2 D = none ∧ keysD ks = some (kvs.map (·.1)) ∧ DRs X.K fa F2 ws (kvs.map (·.2)) ∧
      (∀ (i : Nat) (d : EV.D), (wipeE e vs)[i]? = some (.ow d) → (L2.wipe σ vs)[i]? ≠ some (some (.ref D))) ∧ dcompL vs tg t kf vf (ds.drop i) ks ws e = .ok ys e2) ?_ ?_ ?_ ?_
    · exact ⟨F1, e1, [], [], [], Le.refl F1, rw1.other dF dB dIO (dow rw1), upd_same, dF, rfl, DRs.nil, dow rw1, by rw [List.drop_zero]; exact hc⟩
    · rintro i H2 _ ⟨F2, e, ks, ws, kvs, l2, r2, _⟩
      exact hg H2 (l2.trans r2.sub)
    · rintro i x H2 H3 hi ⟨F2, e, ks, ws, kvs, l2, r2, hDv, fD, dks, dacc, nD, hcl⟩ y
      have rt := r2.rebase
      obtain ⟨F3, d, hd, l3, r3, dr⟩ := hy i H2 x H3 _ F2 _ _ hi l2 rt y
      have hdrop : ds.drop i = d :: ds.drop (i + 1) := by
        obtain ⟨hlt, hv⟩ := List.getElem?_eq_some_iff.mp hd
        rw [List.drop_eq_getElem_cons hlt, hv]
      rw [hdrop] at hcl
      unfold dcompL at hcl
      have notIO : D ∉ (here F2 H2 (wipeE e vs) (L2.wipe σ vs)).IO := fun z => by
        obtain ⟨i, d, q1, q2⟩ := mem_owns.mp z
        exact nD i d q1 q2
      have stay : ∀ {F' : Hp} {e' : Ev} {σ' : L2.St} {H' : Hp}, SR X.K fa (here F2 H2 (wipeE e vs) (L2.wipe σ vs)) F' e' σ' H' → H' D = some (.dK kvs) ∧ F' D = none ∧ ∀ (i : Nat) (d : EV.D), e'[i]? = some (.ow d) → σ'[i]? ≠ some (some (.ref D)) := fun {F' e' σ' H'} r' => by
        have hHD : (here F2 H2 (wipeE e vs) (L2.wipe σ vs)).H D = some (.dK kvs) := hDv
        refine ⟨r'.keep D _ hHD notIO, ?_, fun i d q1 q2 => ?_⟩
        · cases z : F' D with
          | none => rfl
          | some o =>
            rcases r'.fresh D o z fD with y | y
            · rw [hHD] at y
              cases y
            · exact absurd y notIO
        · rcases r'.own i d D q1 q2 with y | y
          · rw [hHD] at y
            cases y
          · exact notIO y
      split at hcl
      · cases hcl
      · rename_i e' htg
        refine gT_ok r3 dr htg (fun _ h => nomatch h) fun σ2 r4 hl hs => ?_
        have hw : L2.wipe σ2 vs = L2.wipe σ vs := by
          refine wipe_ext (by rw [hl, wipe_length]) fun j hj => ?_
          rw [hs j fun z => hj (tgIn_ix hin j z), wipe_out hj]
        refine ⟨hw, _, F3, e', r4, ?_⟩
        have done : ∀ {F' : Hp} {e'' : Ev} {H' : Hp}, Le F3 F' → SR X.K fa (here F2 H2 (wipeE e vs) (L2.wipe σ vs)) F' e'' σ2 H' →
            SR X.K fa (here F1 H1 (wipeE e1 vs) (L2.wipe σ vs)) F' (wipeE e'' vs) (L2.wipe σ vs) H' ∧ Le F1 F' := fun {F' e'' H'} l4 r5 => by
          have r6 := r5.wipe rfl vs
          rw [hw] at r6
          exact ⟨r2.back r6 (fun _ h => nomatch h), (l2.trans l3).trans l4⟩
        have out : ∀ {e'' : Ev}, (∀ (i : Nat) (d : EV.D), e''[i]? = some (.ow d) → σ2[i]? ≠ some (some (.ref D))) → ∀ (i : Nat) (d : EV.D), (wipeE e'' vs)[i]? = some (.ow d) → (L2.wipe σ vs)[i]? ≠ some (some (.ref D)) := fun {e''} nD' i d q1 q2 => by
          by_cases hm : i ∈ vs
          · have := wipeE_mem hm q1
            cases this
          · rw [wipeE_out hm] at q1
            rw [← hw, wipe_out hm] at q2
            exact nD' i d q1 q2
        split at hcl
        · rename_i e3 ht
          rw [ht]
          intro F4 H4 l4 r5
          rw [if_pos rfl]
          refine ⟨_, F4, e3, r5, ?_⟩
          split at hcl
          · rename_i y e4 hk'
            rw [hk']
            intro F5 H5 v l5 r6 fv
            obtain ⟨F6, l6, r7, dv⟩ := r6.freeze fv
            refine ⟨_, F6, e4, r7, ?_⟩
            split at hcl
            · rename_i z e5 hv'
              rw [hv']
              intro F7 H7 v7 l7 r8 fv7
              obtain ⟨F8, l8, r9, dv8⟩ := r8.freeze fv7
              obtain ⟨hDv', fD', nD'⟩ := stay r9
              split at hcl
              · rename_i hcond
                obtain ⟨hkey, hlen⟩ := Bool.and_eq_true_iff.mp hcond
                obtain ⟨kd, hkd⟩ := key_of' hkey
                have ev : v = kV kd := keyD_kV hkd dv
                have lAll := ((((l4.trans l5).trans l6).trans l7).trans l8)
                have dacc' : DRs X.K fa F8 ws (kvs.map (·.2)) := DRs.le (l3.trans lAll) _ _ dacc
                obtain ⟨g1, g2⟩ := put_key dks dacc' hkd dv8
                obtain ⟨r10, l10⟩ := done lAll r9
                have hlen := of_decide_eq_true hlen
                rw [keys_len dks, List.length_map] at hlen
                exact ⟨kvs, kd, ev, hDv', hlen, F8, e5, _, _, putK kvs kd v7, l10, r10.other fD' dB dIO (out nD'), upd_same, fD', g1, g2, out nD', hcl⟩
              · cases hcl
            · cases hcl
          · cases hcl
        · rename_i e3 ht
          rw [ht]
          intro F4 H4 l4 r5
          rw [if_neg Bool.false_ne_true]
          obtain ⟨hDv', fD', nD'⟩ := stay r5
          obtain ⟨r8, l8⟩ := done l4 r5
          exact ⟨F4, e3, ks, ws, kvs, l8, r8, hDv', fD', dks, DRs.le (l3.trans l4) _ _ dacc, out nD', hcl⟩
        · cases hcl
    · rintro H2 ⟨F2, e, ks, ws, kvs, l2, r2, hDv, fD, dks, dacc, nD, hcl⟩
      rw [List.drop_length] at hcl
      unfold dcompL at hcl
      cases hcl
      refine fin F2 H2 (.ref D) (l1.trans l2) (r1.behind r2) (FV.mk hDv (by simp only [OR]; exact ⟨kvs, rfl, dks, dacc⟩) fD (.inl (r1.none_of hD).2.1) fun i d' q1 q2 => ?_)
      by_cases hm : i ∈ vs
      · have q3 := putBack_mem hm q1
        cases z : e1[i]? with
        | none =>
          rw [List.getD_eq_getElem?_getD, z] at q3
          cases q3
        | some u =>
          rw [getD_some z] at q3
          subst q3
          exact dow r1 i d' z q2
      · rw [putBack_out hm] at q1
        rw [← wipe_out hm] at q2
        exact nD i d' q1 q2
theorem goodBlk (g : GoodE G fa xa call k lv X sc W) (s : Shared) (H : Hp) (scope : Scope) (C : Addr) (cl : List (Str × Addr)) (fp : List Addr) : GoodE G fa xa call k lv (X.blk s H scope (compEnvC scope cl C X.env) fp) (relS scope sc) W0 where
  scope := by
    show relS scope X.env.scope = relS scope sc
    rw [g.scope]
  nd := g.nd
  un := g.un
  calm := g.calm
  room := g.room
  tk := takes0
  facts := g.facts
  calls := g.calls
theorem blk_fn {s : Shared} {H : Hp} {scope : Scope} {C : Env} {fp : List Addr} (x : Str) (h : celB scope x = true) : (X.blk s H scope C fp).fn x = true := by
  show (scope.names.lookup x == some .cell) = true
  unfold celB at h
  split at h
  · rename_i e
    rw [e]
    rfl
  · cases h
theorem snd_comp (g : GoodE G fa xa call k lv X sc W) {el it c : SE} (tg : Tg) (own : List (Str × Nat)) (E : ∀ X sc W, GoodE G fa xa call k lv X sc W → SndA G fa xa call lv X sc W el) (I : SndA G fa xa call lv X sc W it)
    (C : ∀ X sc W, GoodE G fa xa call k lv X sc W → SndA G fa xa call lv X sc W c) : SndA G fa xa call lv X sc W (.comp el tg it c own) := by
  refine Snd.ofPE (fun x ok hx => ?_) (fun x ok hx => by replace hx := (and2 hx).2; cases x <;> first | rfl | cases hx)
  have hlv := (and2 hx).1
  replace hx := (and2 hx).2
  split at hx
  · rename_i elt tge ite ifs scope pos
    obtain ⟨hx, h6⟩ := and2 hx
    obtain ⟨hx, h5⟩ := and2 hx
    obtain ⟨hx, h4⟩ := and2 hx
    obtain ⟨h1, h2, h3⟩ := and3 hx
    rw [← g.scope] at h1
    obtain ⟨i1, i2⟩ := I.i tge ite h2
    refine PE.imp (pe_lc (g.calm hlv) g.nd i1 (blkOk_by h1) (fun s H C' cl fp => tg_pg (sc := relS scope sc) ((goodBlk g s H scope C' cl fp).scope) (blk_fn) g.nd (g.calm hlv) h3) (fun s H C' cl fp => (C _ _ _ (goodBlk g s H scope C' cl fp)).c ifs h5)
      (fun s H C' cl fp => (E _ _ _ (goodBlk g s H scope C' cl fp)).e elt h6) (fun x => folded_of i2 x)) fun σ H Q h => comp_rd h4 h
  · cases hx
theorem snd_dcomp (g : GoodE G fa xa call k lv X sc W) {kx vx it c : SE} (tg : Tg) (own : List (Str × Nat)) (E1 : ∀ X sc W, GoodE G fa xa call k lv X sc W → SndA G fa xa call lv X sc W kx) (E : ∀ X sc W, GoodE G fa xa call k lv X sc W → SndA G fa xa call lv X sc W vx) (I : SndA G fa xa call lv X sc W it)
    (C : ∀ X sc W, GoodE G fa xa call k lv X sc W → SndA G fa xa call lv X sc W c) : SndA G fa xa call lv X sc W (.dcomp kx vx tg it c own) := by
  refine Snd.ofPE (fun x ok hx => ?_) (fun x ok hx => by replace hx := (and2 hx).2; cases x <;> first | rfl | cases hx)
  have hlv := (and2 hx).1
  replace hx := (and2 hx).2
  split at hx
  · rename_i elk elt tge ite ifs scope pos
    obtain ⟨hx, h7⟩ := and2 hx
    obtain ⟨hx, h6⟩ := and2 hx
    obtain ⟨hx, h5⟩ := and2 hx
    obtain ⟨hx, h4⟩ := and2 hx
    obtain ⟨h1, h2, h3⟩ := and3 hx
    rw [← g.scope] at h1
    obtain ⟨i1, i2⟩ := I.i tge ite h2
    refine PE.imp (pe_dc (g.calm hlv) g.nd i1 (blkOk_by h1) (fun s H C' cl fp => tg_pg (sc := relS scope sc) ((goodBlk g s H scope C' cl fp).scope) (blk_fn) g.nd (g.calm hlv) h3) (fun s H C' cl fp => (C _ _ _ (goodBlk g s H scope C' cl fp)).c ifs h5)
      (fun s H C' cl fp => (E1 _ _ _ (goodBlk g s H scope C' cl fp)).e elk h6) (fun s H C' cl fp => (E _ _ _ (goodBlk g s H scope C' cl fp)).e elt h7) (fun x => folded_of i2 x)) fun σ H Q h => dcomp_rd h4 h
  · cases hx
/-- every expression comes to what the evaluator says -/
theorem snd : ∀ (a : SE) (X : Cx) (sc : Scope) (W : WX), GoodE G fa xa call k lv X sc W → SndA G fa xa call lv X sc W a
  | .var i, X, sc, W, g => snd_var g i
  | .lit d, X, sc, W, g => snd_lit g d
  | .glo n, X, sc, W, g => snd_glo g n
  | .fnv f, X, sc, W, g => snd_fnv g f
  | .bin op a b, X, sc, W, g => snd_bin g op (snd a X sc W g) (snd b X sc W g)
  | .una op a, X, sc, W, g => snd_una g op (snd a X sc W g)
  | .cmp op a b, X, sc, W, g => snd_cmp g op (snd a X sc W g) (snd b X sc W g)
  | .cmp2 o p a b c, X, sc, W, g => snd_cmp2 g o p (snd a X sc W g) (snd b X sc W g) (snd c X sc W g)
  | .and a b, X, sc, W, g => snd_and g (snd a X sc W g) (snd b X sc W g)
  | .or a b, X, sc, W, g => snd_or g (snd a X sc W g) (snd b X sc W g)
  | .not a, X, sc, W, g => snd_not g (snd a X sc W g)
  | .ife c a b, X, sc, W, g => snd_ife g (snd c X sc W g) (snd a X sc W g) (snd b X sc W g)
  | .lst xs, X, sc, W, g => snd_lst g (snd xs X sc W g)
  | .tup xs, X, sc, W, g => snd_tup g (snd xs X sc W g)
  | .ix a b, X, sc, W, g => snd_ix g (snd a X sc W g) (snd b X sc W g)
  | .sl a lo hi, X, sc, W, g => snd_sl g (snd a X sc W g) (snd lo X sc W g) (snd hi X sc W g)
  | .call f xs, X, sc, W, g => snd_call g f (snd xs X sc W g)
  | .callv i xs, X, sc, W, g => snd_callv g i (snd xs X sc W g)
  | .bi b xs, X, sc, W, g => snd_bi g b (snd xs X sc W g)
  | .isi a t, X, sc, W, g => snd_isi g t (snd a X sc W g)
  | .me m r xs, X, sc, W, g => snd_me g m (snd r X sc W g) (snd xs X sc W g)
  | .mu m i xs, X, sc, W, g => snd_mu g m i (snd xs X sc W g)
  | .comp el tg it c own, X, sc, W, g => snd_comp g tg own (fun X sc W g => snd el X sc W g) (snd it X sc W g) (fun X sc W g => snd c X sc W g)
  | .rng1 a, X, sc, W, g => snd_rng1 g (snd a X sc W g)
  | .rng2 a b, X, sc, W, g => snd_rng2 g (snd a X sc W g) (snd b X sc W g)
  | .lrng1 a, X, sc, W, g => snd_lrng1 g (snd a X sc W g)
  | .lrng2 a b, X, sc, W, g => snd_lrng2 g (snd a X sc W g) (snd b X sc W g)
  | .dnew, X, sc, W, g => snd_dnew g
  | .dcomp kx vx tg it c own, X, sc, W, g => snd_dcomp g tg own (fun X sc W g => snd kx X sc W g) (fun X sc W g => snd vx X sc W g) (snd it X sc W g) (fun X sc W g => snd c X sc W g)
  | .nop, X, sc, W, g => snd_nop g
  | .nil, X, sc, W, g => snd_nil g
  | .cons a xs, X, sc, W, g => snd_cons g (snd a X sc W g) (snd xs X sc W g)
end
end EV
namespace EV
open PySem L2
/-- neither a constant for sure nor constants alone: the pair is not told ahead -/
def unf (vs : List Expr) : Bool := !(vs.all (foldedForSure 8)) && !(vs.all (constantsAlone 8))
theorem kind_loc {sc : Scope} {env : Env} {x : Str} (hs : env.scope = sc) (h : locB sc x = true) : (env.kindOf x == some .local) = true := by
  show (env.scope.names.lookup x == some .local) = true
  rw [hs]
  unfold locB at h
  split at h
  · rename_i e
    rw [e]
    rfl
  · cases h
theorem notStar {a : Expr} (h : okE a = true) : (match a with | .Starred .. => true | _ => false) = false := by
  cases a <;> first
    | rfl
    | cases h
theorem sw2 {sc : Scope} {env : Env} {x y : Str} {px py pt pt2 : Pos} {k k2 : Nat} {a b : Expr} (hk : env.scope.kind = .function) (hs : env.scope = sc) (hx : locB sc x = true) (hy : locB sc y = true) (hl : (py.line == px.line) = true) (hn : (x == y) = false) (ha : okE a = true) (hb : okE b = true) (hu : unf [a, b] = true) :
    swappedStores [.Tuple [.Name x px, .Name y py] k pt] (.Tuple [a, b] k2 pt2) env = pure (some [x, y]) := by
  obtain ⟨u1, u2⟩ := Bool.and_eq_true_iff.mp hu
  have u1' : [a, b].all (foldedForSure 8) = false := by simpa only [Bool.not_eq_true'] using u1
  have u2' : [a, b].all (constantsAlone 8) = false := by simpa only [Bool.not_eq_true'] using u2
  have hbk : env.blockKind = .function := by unfold Env.blockKind; rw [hk]; rfl
  have hd : ([x, y].eraseDups.length != [x, y].length) = false := by
    have h2 : (y == x) = false := by
      rw [beq_eq_false_iff_ne] at hn ⊢
      exact fun z => hn z.symm
    simp [List.eraseDups_cons, h2]
  unfold swappedStores
  have s1 : ([a, b].any fun x => match x with
    | .Starred .. => true
    | _ => false) = false := by
    simp only [List.any_cons, List.any_nil, Bool.or_false]
    cases a <;> first
      | (cases ha; done)
      | (cases b <;> first | rfl | (cases hb; done))
  simp only [List.length_cons, List.length_nil, hbk, s1, u1', u2', List.head?_cons, Option.map_some, Option.getD_some, Expr.pos, List.filterMap_cons, List.filterMap_nil, kind_loc hs hx, kind_loc hs hy, hl, beq_self_eq_true, Bool.and_self, if_true, hd, pure_bind]
  refine (if_neg (by decide)).trans ((if_neg ?_).trans ((if_neg ?_).trans ((if_neg Bool.false_ne_true).trans (if_neg Bool.false_ne_true))))
  · cases a <;> first
      | (cases ha; done)
      | (cases b <;> first | (cases hb; done) | (intro z; cases z))
  · show ¬ ((false || ([x, y].eraseDups.length != [x, y].length)) = true)
    rw [hd]
    decide
end EV
namespace EV
open PySem L2
theorem sw3 {sc : Scope} {env : Env} {x y w : Str} {px py pw pt pt2 : Pos} {k k2 : Nat} {a b c : Expr} (hk : env.scope.kind = .function) (hs : env.scope = sc) (hx : locB sc x = true) (hy : locB sc y = true) (hw : locB sc w = true) (hl : (py.line == px.line) = true) (hl2 : (pw.line == px.line) = true)
    (hn : (x == y) = false) (hn2 : (x == w) = false) (hn3 : (y == w) = false) (ha : okE a = true) (hb : okE b = true) (hc : okE c = true) (hu : unf [a, b, c] = true) :
    swappedStores [.Tuple [.Name x px, .Name y py, .Name w pw] k pt] (.Tuple [a, b, c] k2 pt2) env = pure (some [x, y, w]) := by
  obtain ⟨u1, u2⟩ := Bool.and_eq_true_iff.mp hu
  have u1' : [a, b, c].all (foldedForSure 8) = false := by simpa only [Bool.not_eq_true'] using u1
  have u2' : [a, b, c].all (constantsAlone 8) = false := by simpa only [Bool.not_eq_true'] using u2
  have hbk : env.blockKind = .function := by unfold Env.blockKind; rw [hk]; rfl
  have hd : ([x, y, w].eraseDups.length != [x, y, w].length) = false := by
    have h2 : (y == x) = false := by
      rw [beq_eq_false_iff_ne] at hn ⊢
      exact fun z => hn z.symm
    have h3 : (w == x) = false := by
      rw [beq_eq_false_iff_ne] at hn2 ⊢
      exact fun z => hn2 z.symm
    have h4 : (w == y) = false := by
      rw [beq_eq_false_iff_ne] at hn3 ⊢
      exact fun z => hn3 z.symm
    simp [List.eraseDups_cons, h2, h3, h4]
  unfold swappedStores
  simp only [List.length_cons, List.length_nil, hbk, u1', u2', List.head?_cons, Option.map_some, Option.getD_some, Expr.pos, List.filterMap_cons, List.filterMap_nil, kind_loc hs hx, kind_loc hs hy, kind_loc hs hw, hl, hl2, beq_self_eq_true, Bool.and_self, if_true, hd, pure_bind]
  refine (if_neg (by decide)).trans ((if_neg ?_).trans ((if_neg ?_).trans ((if_neg Bool.false_ne_true).trans (if_neg Bool.false_ne_true))))
  · have e1 : ∀ d : Expr, okE d = true → ¬ ((match d with
      | .Starred .. => true
      | _ => false) = true) := fun d hd => by
      cases d <;> first
        | (cases hd; done)
        | (intro z; cases z)
    intro z
    simp only [List.any_cons, List.any_nil, Bool.or_false, Bool.or_eq_true] at z
    rcases z with z | z | z
    · cases a <;> first
        | (cases ha; done)
        | (cases z; done)
    · cases b <;> first
        | (cases hb; done)
        | (cases z; done)
    · cases c <;> first
        | (cases hc; done)
        | (cases z; done)
  · show ¬ ((false || ([x, y, w].eraseDups.length != [x, y, w].length)) = true)
    rw [hd]
    decide
/-- constants for sure: nothing is swapped -/
theorem swF {env : Env} {ts vs : List Expr} {k k2 : Nat} {pt pt2 : Pos} (hu : vs.all (foldedForSure 8) = true) : swappedStores [.Tuple ts k pt] (.Tuple vs k2 pt2) env = pure none := by
  unfold swappedStores
  simp only [hu, if_true]
  split
  · rfl
  · split
    · rfl
    · split <;> rfl
/-- the names are not all the def's own alone: nothing is swapped -/
def locAll (sc : Scope) (es : List Expr) : Bool := es.all fun e => match e with
  | .Name x _ => locB sc x
  | _ => false
theorem fm_short {α β : Type} {f : α → Option β} : ∀ {l : List α} {a : α}, a ∈ l → f a = none → (l.filterMap f).length < l.length
  | b :: l, a, h, hf => by
    rcases List.mem_cons.mp h with rfl | h
    · rw [List.filterMap_cons, hf, List.length_cons]
      exact Nat.lt_succ_of_le (List.length_filterMap_le f l)
    · rw [List.filterMap_cons, List.length_cons]
      have ih := fm_short (l := l) h hf
      cases f b with
      | none => exact Nat.lt_succ_of_lt ih
      | some c => exact Nat.succ_lt_succ ih
theorem swC {sc : Scope} {env : Env} {ts vs : List Expr} {k k2 : Nat} {pt pt2 : Pos} (hs : env.scope = sc) (h : locAll sc ts = false) : swappedStores [.Tuple ts k pt] (.Tuple vs k2 pt2) env = pure none := by
  obtain ⟨e, he, hb⟩ : ∃ e ∈ ts, (match e with
    | .Name x _ => locB sc x
    | _ => false) = false := by
    unfold locAll at h
    rw [List.all_eq_false] at h
    obtain ⟨e, he, hb⟩ := h
    exact ⟨e, he, by simpa only [Bool.not_eq_true] using hb⟩
  have hk : ∀ x, locB sc x = false → (env.kindOf x == some .local) = false := fun x hx => by
    show (env.scope.names.lookup x == some .local) = false
    rw [hs]
    unfold locB at hx
    cases z : sc.names.lookup x with
    | none => rfl
    | some kk =>
      rw [z] at hx
      cases kk <;> first
        | rfl
        | cases hx
  unfold swappedStores
  dsimp only
  split
  · rfl
  · split
    · rfl
    · have hlt := fm_short (f := fun e : Expr => match e with
        | .Name id pos => if (env.kindOf id == some .local && pos.line == (Option.map (fun x => x.pos.line) ts.head?).getD 0) = true then some id else none
        | _ => none) he (by
          cases e <;> try rfl
          rename_i x p
          have hx : locB sc x = false := hb
          show (if (env.kindOf x == some .local && _) = true then some x else none) = none
          rw [hk x hx]
          rfl)
      rw [if_pos (by
        refine Bool.or_eq_true_iff.mpr (.inl ?_)
        refine bne_iff_ne.mpr (Nat.ne_of_lt ?_)
        exact hlt)]
end EV
/-! Statements: the text's check, what each comes to. -/
namespace EV
open PySem L2
structure ErS where
  st : Stmt → Bool
  ss : List Stmt → Bool
  hs : List ExceptHandler → Bool
def sF (f : Stmt → Bool) : ErS where
  st := f
  ss := fun xs => match xs with
    | [x] => f x
    | _ => false
  hs := fun _ => false
/-- no comprehension -/
def noC : Expr → Bool
  | .ListComp .. | .SetComp .. | .DictComp .. => false
  | _ => true
/-- a comprehension that is stored within its own block -/
def swOf (sc : Scope) (x : Str) (p : Pos) : Expr → Bool
  | .ListComp _ _ s ep => locB sc x && (p.line == ep.line) && !(s.names.any fun (n, k) => n == x && (k == .local || k == .cell))
  | .DictComp _ _ _ s ep => locB sc x && (p.line == ep.line) && !(s.names.any fun (n, k) => n == x && (k == .local || k == .cell))
  | .SetComp .. => true
  | _ => false
def isTup : Expr → Bool
  | .Tuple .. => true
  | _ => false
def exB (G : Cfg) (c : Nat) (x : Str) : Bool := match G.exs[c]? with
  | some y => decide (y = x)
  | none => false
/-- a tuple of values for these targets: constants for sure, or two or three plain names of one row, stored from the right -/
def parOk (sc : Scope) (es : List Expr) (is : List Nat) : Expr → Bool
  | .Tuple vs _ _ => vs.all (foldedForSure 8) || !(locAll sc es) || (match es, vs, is with
    | [.Name x px, .Name y py], [a, b], [i, j] => decide (i ≠ j) && locB sc x && locB sc y && (py.line == px.line) && !(x == y) && okE a && okE b && unf [a, b]
    | [.Name x px, .Name y py, .Name w pw], [a, b, c], [i, j, l] => decide (i ≠ j) && decide (i ≠ l) && decide (j ≠ l) && locB sc x && locB sc y && locB sc w && (py.line == px.line) && (pw.line == px.line) && !(x == y) && !(x == w) && !(y == w) && okE a && okE b && okE c && unf [a, b, c]
    | _, _, _ => false)
  | _ => true
def skipB : Stmt → Bool
  | .Pass _ => true
  | .Expr (.Constant (.str _) _ _) _ => true
  | _ => false
/-- in a def every own name may be stored -/
abbrev anyB : Str → Bool := fun _ => true
def erS (G : Cfg) (N : List Str) (sc : Scope) : SS → Bool → ErS
  | .skip, _ => ⟨skipB, fun xs => match xs with
      | [] => true
      | _ => false, fun xs => match xs with
      | [] => true
      | _ => false⟩
  | .seq s r, lv => ⟨fun _ => false, fun xs => match xs with
      | x :: xs => (erS G N sc s lv).st x && (erS G N sc r lv).ss xs
      | [] => false, fun _ => false⟩
  | .expr a, lv => sF fun x => match x with
    | .Expr e _ => (erR G N lv a sc).e e && noC e
    | _ => false
  | .asg i a, lv => sF fun x => match x with
    | .Assign [.Name x p] e _ => decide (N[i]? = some x) && stB sc anyB x && (erR G N lv a sc).e e && (!(swOf sc x p e) || lv)
    | _ => false
  | .asgT is a, lv => sF fun x => match x with
    | .Assign [.Tuple es n p] e _ => lv && tgB N sc anyB (.tp is) (.Tuple es n p) && (erR G N lv a sc).e e && parOk sc es is e
    | _ => false
  | .asgI i k a, lv => sF fun x => match x with
    | .Assign [.Subscript (.Name x p) ke _] e _ => slotB N sc i x && (erR G N lv k sc).e ke && (erR G N lv a sc).e e
    | _ => false
  | .aug i op a, lv => sF fun x => match x with
    | .AugAssign (.Name x _) o e _ => decide (o = op) && decide (N[i]? = some x) && stB sc anyB x && (erR G N lv a sc).e e
    | _ => false
  | .ret a, lv => sF fun x => match x with
    | .Return (some e) _ => (erR G N lv a sc).e e
    | _ => false
  | .retN, _ => sF fun x => match x with
    | .Return none _ => true
    | _ => false
  | .cond c a b, lv => sF fun x => match x with
    | .If t p q _ => (erR G N lv c sc).e t && (erS G N sc a lv).ss p && (erS G N sc b lv).ss q
    | _ => false
  | .forS tg it b, lv => sF fun x => match x with
    | .For t e p [] _ => lv && tgB N sc anyB tg t && (erR G N lv it sc).i e && (erS G N sc b lv).ss p
    | _ => false
  | .whil c b, lv => sF fun x => match x with
    | .While t p [] _ => (erR G N lv c sc).e t && (erS G N sc b lv).ss p
    | _ => false
  | .brk, _ => sF fun x => match x with
    | .Break _ => true
    | _ => false
  | .cont, _ => sF fun x => match x with
    | .Continue _ => true
    | _ => false
  | .raise c, lv => sF fun x => match x with
    | .Raise (some (.Call (.Name x _) [.Constant (.str _) _ _] [] _)) none _ => lv && exB G c x && glB sc x && nmB x
    | _ => false
  | .tryS b hs, lv => sF fun x => match x with
    | .Try p (h :: r) [] [] _ => lv && (erS G N sc b lv).ss p && (erS G N sc hs lv).hs (h :: r)
    | _ => false
  | .hnd c s r, lv => ⟨fun _ => false, fun _ => false, fun hs => match hs with
      | .ExceptHandler (some (.Name x _)) none (b :: p) _ :: q => exB G c x && glB sc x && nmB x && (erS G N sc s false).ss (b :: p) && (erS G N sc r lv).hs q
      | _ => false⟩
structure GoodS (G : Cfg) (fa xa : Nat → Addr) (call : Nat → List Sl → FR) (k : Nat) (lv : Bool) (X : Cx) (sc : Scope) (W : WX) : Prop extends GoodE G fa xa call k lv X sc W where
  kind : X.env.scope.kind = .function
  fn : ∀ x, X.fn x = true
  own : PassesOwn (model X.prog X.w) X.A X.env X.xe
  stk : X.stack = X.env :: X.outer
  frm : X.env.frame = some X.env.locals
section
variable (K : PySem.W.Frag) (fa xa : Nat → Addr) (io : List Bool) (W : WX)
def OutP (B : Bs) (F : Hp) (D : Ends) : Out → Prop
  | .nx e => ∀ F' σ' H', Le F F' → SR K fa B F' e σ' H' → D.nx σ' H'
  | .bk e => ∀ F' σ' H', Le F F' → SR K fa B F' e σ' H' → D.bk σ' H'
  | .ct e => ∀ F' σ' H', Le F F' → SR K fa B F' e σ' H' → D.ct σ' H'
  | .rt d fr e => ∀ F' σ' H' v, Le F F' → SR K fa B F' e σ' H' → FV K fa B F' e σ' H' d fr v → D.rt v H'
  | .er c e => ∀ F' σ' H', Le F F' → SR K fa B F' e σ' H' → W (.ref (xa c)) none σ' H'
  | .st => False
def IosOk (B : Bs) : Prop := ∀ p ∈ B.ios, ioAt io p.1 = true
def rS (x : Ev → Out) : TS := fun D σ H => ∃ B F e, IosOk io B ∧ SR K fa B F e σ H ∧ OutP K fa xa W B F D (x e)
end
section
variable {K : PySem.W.Frag} {fa xa : Nat → Addr} {io : List Bool} {W : WX} {B : Bs} {F F' H : Hp} {e : Ev} {σ : L2.St} {D : Ends}
theorem OutP.le {o : Out} (l : Le F F') (h : OutP K fa xa W B F D o) : OutP K fa xa W B F' D o := by
  cases o with
  | nx e => exact fun F1 σ' H' l' r => h F1 σ' H' (l.trans l') r
  | bk e => exact fun F1 σ' H' l' r => h F1 σ' H' (l.trans l') r
  | ct e => exact fun F1 σ' H' l' r => h F1 σ' H' (l.trans l') r
  | rt d fr e => exact fun F1 σ' H' v l' r q => h F1 σ' H' v (l.trans l') r q
  | er c e => exact fun F1 σ' H' l' r => h F1 σ' H' (l.trans l') r
  | st => exact h
theorem OutP.run {α : Type} {r : R α} {k : α → Ev → Out} (h : OutP K fa xa W B F D (r.out k)) (l : Le F F') : XP K fa xa W B F' σ r fun a e' => OutP K fa xa W B F D (k a e') := by
  cases r with
  | ok a e => exact h
  | er c e => exact fun F1 H1 l1 r1 => h F1 σ H1 (l.trans l1) r1
  | st => exact h
/-- the same but for the ends -/
theorem OutP.ends {D' : Ends} {o : Out} (h : OutP K fa xa W B F D o) (hn : ∀ e, o = .nx e → OutP K fa xa W B F D (.nx e) → OutP K fa xa W B F D' (.nx e)) (hb : ∀ e, o = .bk e → OutP K fa xa W B F D (.bk e) → OutP K fa xa W B F D' (.bk e)) (hc : ∀ e, o = .ct e → OutP K fa xa W B F D (.ct e) → OutP K fa xa W B F D' (.ct e)) (hr : D'.rt = D.rt) : OutP K fa xa W B F D' o := by
  cases o with
  | nx e => exact hn e rfl h
  | bk e => exact hb e rfl h
  | ct e => exact hc e rfl h
  | rt d fr e =>
    intro F1 σ' H' v l r q
    rw [hr]
    exact h F1 σ' H' v l r q
  | er c e => exact h
  | st => exact h
end
structure SndS (G : Cfg) (fa xa : Nat → Addr) (call : Nat → List Sl → FR) (io : List Bool) (X : Cx) (W : WX) (A : ExR) (C : ErS) : Prop where
  st : ∀ x, C.st x = true → PS X x (rS X.K fa xa io W A.x)
  ss : ∀ xs, C.ss xs = true → PSs X xs (rS X.K fa xa io W A.x)
  hs : ∀ xs, C.hs xs = true → ∃ l, HdsOk X xs l ∧ ∀ (B : Bs) (F : Hp) (D : Ends) (c : Nat) (e : Ev), IosOk io B → OutP X.K fa xa W B F D (A.h c e) → ∀ F' σ' H', Le F F' → SR X.K fa B F' e σ' H' → wMany X.K W D l (.ref (xa c)) none σ' H'
theorem PS.imp {X : Cx} {x : Stmt} {t t' : TS} (h : PS X x t) (i : ∀ D σ H, t' D σ H → t D σ H) : PS X x t' := ⟨fun pins s σ H D I q => h.run pins s σ H D I (i D σ H q)⟩
theorem PSs.imp {X : Cx} {x : List Stmt} {t t' : TS} (h : PSs X x t) (i : ∀ D σ H, t' D σ H → t D σ H) : PSs X x t' := ⟨fun pins s σ H D I q => h.run pins s σ H D I (i D σ H q)⟩
section
variable {G : Cfg} {fa xa : Nat → Addr} {call : Nat → List Sl → FR} {io : List Bool} {k : Nat} {lv : Bool} {X : Cx} {sc : Scope} {W : WX}
theorem SndS.of {x : Ev → Out} {f : Stmt → Bool} (h : ∀ y, f y = true → PS X y (rS X.K fa xa io W x)) : SndS G fa xa call io X W (ofX x) (sF f) := by
  refine ⟨h, fun xs hx => ?_, fun xs hx => nomatch hx⟩
  match xs, hx with
  | [y], hx => exact pss_one (h y hx)
abbrev SndB (G : Cfg) (fa xa : Nat → Addr) (call : Nat → List Sl → FR) (io : List Bool) (lv : Bool) (X : Cx) (sc : Scope) (W : WX) (s : SS) : Prop := SndS G fa xa call io X W (exR G call io s) (erS G X.N sc s lv)
theorem st_skip (g : GoodS G fa xa call k lv X sc W) : SndB G fa xa call io lv X sc W .skip := by
  have nx : ∀ D σ H, rS X.K fa xa io W (exR G call io .skip).x D σ H → tNext D σ H := fun D σ H ⟨B, F, e, hi, r, q⟩ => q F σ H (Le.refl F) r
  refine ⟨fun y hy => ?_, fun xs hx => ?_, fun xs hx => ?_⟩
  · have hy' : skipB y = true := hy
    unfold skipB at hy'
    split at hy'
    · exact PS.imp ps_pass nx
    · exact PS.imp ps_doc nx
    · cases hy'
  · cases xs with
    | nil => exact PSs.imp pss_nil nx
    | cons _ _ => cases hx
  · cases xs with
    | nil => exact ⟨[], .nil, fun B F D c e hi q F' σ' H' l r => q F' σ' H' l r⟩
    | cons _ _ => cases hx
theorem st_seq {s r : SS} (A : SndB G fa xa call io lv X sc W s) (C : SndB G fa xa call io lv X sc W r) : SndB G fa xa call io lv X sc W (.seq s r) := by
  refine ⟨fun y hy => (nomatch hy), fun xs hx => ?_, fun xs hx => (nomatch hx)⟩
  cases xs with
  | nil => cases hx
  | cons y ys =>
    obtain ⟨h1, h2⟩ := and2 (show ((erS G X.N sc s lv).st y && (erS G X.N sc r lv).ss ys) = true from hx)
    refine PSs.imp (pss_cons (A.st y h1) (C.ss ys h2)) fun D σ H ⟨B, F, e, hi, rr, q⟩ => ⟨B, F, e, hi, rr, ?_⟩
    have q' : OutP X.K fa xa W B F D (match (exR G call io s).x e with
      | .nx e1 => (exR G call io r).x e1
      | o => o) := q
    cases z : (exR G call io s).x e with
    | nx e1 =>
      simp only [z] at q'
      exact fun F1 σ1 H1 l r1 => ⟨B, F1, e1, hi, r1, q'.le l⟩
    | bk e1 =>
      simp only [z] at q'
      exact q'
    | ct e1 =>
      simp only [z] at q'
      exact q'
    | rt d fr e1 =>
      simp only [z] at q'
      exact q'
    | er c e1 =>
      simp only [z] at q'
      exact q'
    | st =>
      simp only [z] at q'
      exact q'
theorem sw_false {x : Expr} {t : Option Expr} {n : Nat} {env : Env} (h : noC x = true) : swapsWith x t n env = pure false := by
  cases x <;> first
    | rfl
    | cases h
theorem st_expr (g : GoodS G fa xa call k lv X sc W) (a : SE) : SndB G fa xa call io lv X sc W (.expr a) := by
  have A := snd a X sc W g.toGoodE
  refine SndS.of fun y hy => ?_
  split at hy
  · rename_i e' p
    obtain ⟨h1, h2⟩ := and2 hy
    refine PS.imp (ps_expr (A.e _ h1) (sw_false h2)) fun D σ H ⟨B, F, e, hi, r, q⟩ => ⟨B, F, e, r, (OutP.run q (Le.refl F)).imp fun x e1 _ q1 F1 H1 v l1 r1 fv => ?_⟩
    exact q1 F1 σ H1 l1 r1
  · cases hy
theorem st_ret (g : GoodS G fa xa call k lv X sc W) (a : SE) : SndB G fa xa call io lv X sc W (.ret a) := by
  have A := snd a X sc W g.toGoodE
  refine SndS.of fun y hy => ?_
  split at hy
  · rename_i e' p
    have dflt : ∀ D σ H, (∃ B F e, IosOk io B ∧ SR X.K fa B F e σ H ∧ OutP X.K fa xa W B F D (((evR G call a).f e).out fun x e1 => .rt x.1 x.2 e1)) → tRet (rF X.K fa xa W (evR G call a).f) D σ H := fun D σ H ⟨B, F, e, hi, r, q⟩ =>
      ⟨B, F, e, r, (OutP.run q (Le.refl F)).imp fun x e1 _ q1 F1 H1 v l1 r1 fv => q1 F1 σ H1 v l1 r1 fv⟩
    cases a with
    | var i =>
      have hs := (and2 (show (okE e' && _) = true from hy)).2
      cases e' <;> try (cases hs)
      rename_i x p'
      have pv : PE X (.Name x p') (tVar i) := slot_ok g.toGoodE hs
      by_cases hio : ioAt io i = true
      · refine PS.imp (ps_ret (A.e _ hy)) fun D σ H ⟨B, F, e, hi, r, q⟩ => dflt D σ H ⟨B, F, e, hi, r, ?_⟩
        have q' : OutP X.K fa xa W B F D (if ioAt io i = true then ((evR G call (.var i)).f e).out fun x e1 => .rt x.1 x.2 e1 else _) := q
        rw [if_pos hio] at q'
        exact q'
      · refine PS.imp (ps_ret pv) fun D σ H ⟨B, F, e, hi, r, q⟩ => ?_
        have q' : OutP X.K fa xa W B F D (if ioAt io i = true then ((evR G call (.var i)).f e).out fun x e1 => .rt x.1 x.2 e1 else match e.getD i .no with
          | .no => .st
          | .sh d => .rt d false e
          | .ow d => .rt d true (e.set i .no)) := q
        rw [if_neg hio] at q'
        cases z : e.getD i .no with
        | no =>
          simp only [z] at q'
          exact q'.elim
        | sh d =>
          simp only [z] at q'
          obtain ⟨w, h1, v, h2, h3⟩ := r.at (getD_sh z)
          subst h2
          exact ⟨v, h1, q' F σ H v (Le.refl F) r (FV.sh h3)⟩
        | ow d =>
          simp only [z] at q'
          obtain ⟨a, o, h1, h2, h3, h4, h5, _⟩ := r.ow (getD_ow z)
          refine ⟨.ref a, h1, q' F σ H _ (Le.refl F) (r.drop i) (FV.mk h2 h3 h4 h5 fun j d' g1 g2 => ?_)⟩
          by_cases hj : i = j
          · subst hj
            rw [List.getElem?_set_self (by
              have := (List.getElem?_eq_some_iff.mp (getD_ow z)).1
              exact this)] at g1
            cases g1
          · rw [List.getElem?_set_ne hj] at g1
            exact hj (r.inj i j d d' a (getD_ow z) g1 h1 g2)
    | _ => exact PS.imp (ps_ret (A.e _ hy)) dflt
  · cases hy
theorem st_retN (g : GoodS G fa xa call k lv X sc W) : SndB G fa xa call io lv X sc W .retN := by
  refine SndS.of fun y hy => ?_
  split at hy
  · exact PS.imp ps_retN fun D σ H ⟨B, F, e, hi, r, q⟩ => q F σ H .non (Le.refl F) r (FV.sh (by simp only [DR]))
  · cases hy
theorem st_brk (g : GoodS G fa xa call k lv X sc W) : SndB G fa xa call io lv X sc W .brk := by
  refine SndS.of fun y hy => ?_
  split at hy
  · exact PS.imp ps_break fun D σ H ⟨B, F, e, hi, r, q⟩ => q F σ H (Le.refl F) r
  · cases hy
theorem st_cont (g : GoodS G fa xa call k lv X sc W) : SndB G fa xa call io lv X sc W .cont := by
  refine SndS.of fun y hy => ?_
  split at hy
  · exact PS.imp ps_continue fun D σ H ⟨B, F, e, hi, r, q⟩ => q F σ H (Le.refl F) r
  · cases hy
theorem st_cond (g : GoodS G fa xa call k lv X sc W) (c : SE) {a b : SS} (A : SndB G fa xa call io lv X sc W a) (C : SndB G fa xa call io lv X sc W b) : SndB G fa xa call io lv X sc W (.cond c a b) := by
  have E := snd c X sc W g.toGoodE
  refine SndS.of fun y hy => ?_
  split at hy
  · rename_i t p q' ps
    obtain ⟨h1, h2, h3⟩ := and3 hy
    refine PS.imp (ps_if (E.t _ h1) (A.ss _ h2) (C.ss _ h3)) fun D σ H ⟨B, F, e, hi, r, q⟩ => ⟨B, F, e, r, (OutP.run q (Le.refl F)).imp fun x e1 _ q1 F1 H1 l1 r1 => ?_⟩
    cases x with
    | true =>
      rw [if_pos rfl]
      exact ⟨B, F1, e1, hi, r1, q1.le l1⟩
    | false =>
      rw [if_neg Bool.false_ne_true]
      exact ⟨B, F1, e1, hi, r1, q1.le l1⟩
  · cases hy
theorem er_comp {N : List Str} {a : SE} {elt : Expr} {gs : List Comprehension} {scope : Scope} {p : Pos} (h : (erR G N lv a sc).e (.ListComp elt gs scope p) = true) : ∃ el tg it c own tge ite ifs, a = .comp el tg it c own ∧ gs = [⟨tge, ite, ifs, 0⟩] ∧
    blkC N sc scope own = true ∧ (erR G N lv it sc).i ite = true ∧ tgB N (relS scope sc) (celB scope) tg tge = true ∧ tgIn (own.map (·.2)) tg = true ∧ (erR G N lv c (relS scope sc)).c ifs = true ∧ (erR G N lv el (relS scope sc)).e elt = true := by
  cases a <;> try (simp [erR, eF, eNo] at h; done)
  rename_i el tg it c own
  simp only [erR, eF] at h
  have h' := (and2 (and2 h).2).2
  clear h
  split at h'
  · rename_i e2 tge ite ifs sc2 pos z
    cases z
    obtain ⟨h', h6⟩ := and2 h'
    obtain ⟨h', h5⟩ := and2 h'
    obtain ⟨h', h4⟩ := and2 h'
    obtain ⟨h1, h2, h3⟩ := and3 h'
    exact ⟨el, tg, it, c, own, tge, ite, ifs, rfl, rfl, h1, h2, h3, h4, h5, h6⟩
  · cases h'
theorem loc_of {x : Str} (hs : X.env.scope = sc) (h : locB sc x = true) : X.env.scope.names.lookup x = some .local := by
  rw [hs]
  unfold locB at h
  split at h
  · assumption
  · cases h
theorem er_dcomp {N : List Str} {a : SE} {elk elt : Expr} {gs : List Comprehension} {scope : Scope} {p : Pos} (h : (erR G N lv a sc).e (.DictComp elk elt gs scope p) = true) : ∃ kx vx tg it c own tge ite ifs, a = .dcomp kx vx tg it c own ∧ gs = [⟨tge, ite, ifs, 0⟩] ∧
    blkC N sc scope own = true ∧ (erR G N lv it sc).i ite = true ∧ tgB N (relS scope sc) (celB scope) tg tge = true ∧ tgIn (own.map (·.2)) tg = true ∧ (erR G N lv c (relS scope sc)).c ifs = true ∧ (erR G N lv kx (relS scope sc)).e elk = true ∧ (erR G N lv vx (relS scope sc)).e elt = true := by
  cases a <;> try (simp [erR, eF, eNo] at h; done)
  rename_i kx vx tg it c own
  simp only [erR, eF] at h
  have h' := (and2 (and2 h).2).2
  clear h
  split at h'
  · rename_i e1 e2 tge ite ifs sc2 pos z
    cases z
    obtain ⟨h', h7⟩ := and2 h'
    obtain ⟨h', h6⟩ := and2 h'
    obtain ⟨h', h5⟩ := and2 h'
    obtain ⟨h', h4⟩ := and2 h'
    obtain ⟨h1, h2, h3⟩ := and3 h'
    exact ⟨kx, vx, tg, it, c, own, tge, ite, ifs, rfl, rfl, h1, h2, h3, h4, h5, h6, h7⟩
  · cases h'
theorem sw_eq {x : Str} {p : Pos} {n : Nat} {env : Env} {value : Expr} {scope : Scope} {ep : Pos} (hk : env.scope.kind = .function) (hs : env.scope = sc)
    (hv : swapsWith value (some (.Name x p)) n env = pure (env.blockKind == .function && env.kindOf x == some .local && (p.line == ep.line) && !(scope.names.any fun (n, k) => n == x && (k == .local || k == .cell)))) :
    swapsWith value (some (.Name x p)) n env = pure (locB sc x && (p.line == ep.line) && !(scope.names.any fun (n, k) => n == x && (k == .local || k == .cell))) := by
  have hb : env.blockKind = .function := by unfold Env.blockKind; rw [hk]; rfl
  have hkd : (env.kindOf x == some .local) = locB sc x := by
    show (env.scope.names.lookup x == some .local) = _
    rw [hs]
    unfold locB
    cases sc.names.lookup x with
    | none => rfl
    | some k => cases k <;> rfl
  rw [hv, hkd, hb, show (ScopeKind.function == ScopeKind.function) = true from rfl, Bool.true_and]
/-- name = {..} on one row, the name a local -/
theorem ps_setDc {i : Nat} {y : Str} {py : Pos} {kx vx tg iter : Expr} {ifs : List Expr} {scope : Scope} {own : List (Str × Nat)} {pos spos : Pos} {wi : TI} {g : TG} {tt : TT} {tk tv : TE} (calm : X.calm = true) (nd : X.N.Nodup) (iy : X.N[i]? = some y) (ly : X.env.scope.names.lookup y = some .local)
    (sw : swapsWith (.DictComp kx vx [⟨tg, iter, ifs, 0⟩] scope pos) (some (.Name y py)) spos.line X.env = pure true) (ti : PI X tg iter wi) (blk : BlkOk X.N X.env.scope scope own)
    (pg : ∀ (s : Shared) (H : Hp) (C : Addr) (cl : List (Str × Addr)) (fp : List Addr), PG (X.blk s H scope (compEnvC scope cl C X.env) fp) tg g) (pt : ∀ (s : Shared) (H : Hp) (C : Addr) (cl : List (Str × Addr)) (fp : List Addr), PTs (X.blk s H scope (compEnvC scope cl C X.env) fp) ifs tt)
    (pk : ∀ (s : Shared) (H : Hp) (C : Addr) (cl : List (Str × Addr)) (fp : List Addr), PE (X.blk s H scope (compEnvC scope cl C X.env) fp) kx tk)
    (pv : ∀ (s : Shared) (H : Hp) (C : Addr) (cl : List (Str × Addr)) (fp : List Addr), PE (X.blk s H scope (compEnvC scope cl C X.env) fp) vx tv) (fold : ∀ x, foldedSetIterable iter X.env x = pure x) :
    PS X (.Assign [.Name y py] (.DictComp kx vx [⟨tg, iter, ifs, 0⟩] scope pos) spos) (tAsg (tDc wi g tt tk tv (own.map (·.2))) (gName i)) := by
  constructor
  intro pins s σ H D I q
  rw [exec_Assign_Name_used _ _ _ _ sw]
  refine wpAny_bind (wpAny_standAt (wpAny_bind ?_))
  show wpAny _ X.A (comprehension (.DictComp kx vx [⟨tg, iter, ifs, 0⟩] scope pos) scope X.env (firstIterPos [⟨tg, iter, ifs, 0⟩] pos) newDict false (eval iter X.env) (some (assign (.Name y py) X.env)) >>= fun _ => pure ()) _ _ s
  have q2 : tDc wi g tt tk tv (own.map (·.2)) σ H (fun x H1 => gName i x σ H1 D.nx) := q
  refine wpAny_bind (thn (dc_core (Qf := fun _ s2 => SP X pins D .next s2) calm nd I ti blk pg pt pk pv fold q2 fun L C s2 m H2 I2 q3 hn f => ?_) fun _ s2 hq => wpAny_pure (wpAny_pure hq))
  show wpAny _ _ (assign (.Name y py) X.env (.ref L)) _ _ _
  refine wpAny_assign_Name (store_ok2 (v := V.ref L) I2 nd iy (.inl ly) rfl (fun s3 I3 ⟨a, sb, ha⟩ => ?_) (.inr ly))
  obtain ⟨f0, f1, f2, f3, f4, f5⟩ := f
  have ne : C ≠ a := by
    rcases ha with z | z
    · rw [z]
      exact f1
    · exact fun e => f4 y a z e.symm
  exact ⟨m, hn.sameBut sb ne, fun h4 sb4 => ⟨_, H2, I3.turned (t' := s3.toks) (fun b o hb e => (sb4.2 b hb).trans e) f0 f1 f3 f4 f5, q3⟩⟩
theorem sw_no {x : Str} {p : Pos} {e : Expr} {n : Nat} {env : Env} (hk : env.scope.kind = .function) (h : swOf sc x p e = false) (hs : env.scope = sc) : swapsWith e (some (.Name x p)) n env = pure false := by
  cases e <;> try rfl
  case ListComp elt gs scope ep =>
    rw [sw_eq (sc := sc) (scope := scope) (ep := ep) hk hs rfl]
    exact congrArg pure h
  case DictComp elk elt gs scope ep =>
    rw [sw_eq (sc := sc) (scope := scope) (ep := ep) hk hs rfl]
    exact congrArg pure h
  all_goals cases h
theorem st_asg (g : GoodS G fa xa call k lv X sc W) (i : Nat) (a : SE) : SndB G fa xa call io lv X sc W (.asg i a) := by
  have A := snd a X sc W g.toGoodE
  have rd : ∀ D σ H, rS X.K fa xa io W (exR G call io (.asg i a)).x D σ H → tAsg (rF X.K fa xa W (evR G call a).f) (gName i) D σ H := fun D σ H ⟨B, F, e, hi, r, q⟩ => by
    have q' : OutP X.K fa xa W B F D (if ioAt io i = true then .st else ((evR G call a).f e).out fun x e1 => .nx (e1.set i (mkSl x.1 x.2))) := q
    by_cases hio : ioAt io i = true
    · rw [if_pos hio] at q'
      exact q'.elim
    · rw [if_neg hio] at q'
      refine ⟨B, F, e, r, (OutP.run q' (Le.refl F)).imp fun x e1 _ q1 F1 H1 v l1 r1 fv => ?_⟩
      obtain ⟨F2, l2, r2⟩ := r1.asgF (i := i) (fun p hp z => hio (by rw [← z]; exact hi p hp)) fv
      exact q1 F2 _ H1 (l1.trans l2) r2
  refine SndS.of fun y hy => ?_
  split at hy
  · rename_i x p e' ps
    obtain ⟨hy', h4⟩ := and2 hy
    clear hy
    obtain ⟨h1, h2, h3⟩ := and3 hy'
    clear hy'
    have hN := of_decide_eq_true h1
    obtain ⟨l1, l2⟩ := st_ok (fb := anyB) g.scope (fun x _ => g.fn x) h2
    by_cases hsw : swOf sc x p e' = true
    · have hlv : lv = true := by
        rw [hsw] at h4
        simpa using h4
      cases e' <;> try (cases hsw)
      case ListComp elt gs scope ep =>
        obtain ⟨s1, s2, s3⟩ := and3 (show (locB sc x && (p.line == ep.line) && !(scope.names.any fun (n, k) => n == x && (k == .local || k == .cell))) = true from hsw)
        obtain ⟨el, tg, it, c, own, tge, ite, ifs, ea, eg, g1, g2, g3, g4, g5, g6⟩ := er_comp h3
        subst ea eg
        obtain ⟨i1, i2⟩ := (snd it X sc W g.toGoodE).i tge ite g2
        refine PS.imp (ps_setLc (g := gT X.K tg) (tt := rT X.K fa xa W0 (evR G call c).t) (te := rF X.K fa xa W0 (evR G call el).f) (g.calm hlv) g.nd hN (loc_of g.scope s1) ?_ i1 (blkOk_by (by rw [g.scope]; exact g1)) (fun s H C' cl fp => tg_pg (sc := relS scope sc) ((goodBlk g.toGoodE s H scope C' cl fp).scope) blk_fn g.nd (g.calm hlv) g3)
          (fun s H C' cl fp => (snd c _ _ _ (goodBlk g.toGoodE s H scope C' cl fp)).c ifs g5) (fun s H C' cl fp => (snd el _ _ _ (goodBlk g.toGoodE s H scope C' cl fp)).e elt g6) (fun x => folded_of i2 x)) fun D σ H h => ?_
        · exact sw_true g.kind (loc_of g.scope s1) s2 (by simpa using s3)
        · exact comp_rd g4 (rd D σ H h)
      case DictComp elk elt gs scope ep =>
        obtain ⟨kx, vx, tg, it, c, own, tge, ite, ifs, ea, eg, g1, g2, g3, g4, g5, g6, g7⟩ := er_dcomp h3
        subst ea eg
        obtain ⟨i1, i2⟩ := (snd it X sc W g.toGoodE).i tge ite g2
        have hlo : locB sc x = true := (and3 (show (locB sc x && (p.line == ep.line) && !(scope.names.any fun (n, k) => n == x && (k == .local || k == .cell))) = true from hsw)).1
        refine PS.imp (ps_setDc (g := gT X.K tg) (tt := rT X.K fa xa W0 (evR G call c).t) (tk := rF X.K fa xa W0 (evR G call kx).f) (tv := rF X.K fa xa W0 (evR G call vx).f) (g.calm hlv) g.nd hN (loc_of g.scope hlo) ?_ i1 (blkOk_by (by rw [g.scope]; exact g1)) (fun s H C' cl fp => tg_pg (sc := relS scope sc) ((goodBlk g.toGoodE s H scope C' cl fp).scope) blk_fn g.nd (g.calm hlv) g3)
          (fun s H C' cl fp => (snd c _ _ _ (goodBlk g.toGoodE s H scope C' cl fp)).c ifs g5) (fun s H C' cl fp => (snd kx _ _ _ (goodBlk g.toGoodE s H scope C' cl fp)).e elk g6) (fun s H C' cl fp => (snd vx _ _ _ (goodBlk g.toGoodE s H scope C' cl fp)).e elt g7) (fun x => folded_of i2 x)) fun D σ H h => ?_
        · rw [sw_eq (sc := sc) (scope := scope) (ep := ep) g.kind g.scope rfl]
          exact congrArg pure hsw
        · exact dcomp_rd g4 (rd D σ H h)
      all_goals
        exfalso
        cases a <;> simp [erR, eF, eNo] at h3
    · exact PS.imp (ps_set g.nd hN l1 (A.e _ h3) (sw_no g.kind (by simpa using hsw) g.scope) l2) rd
  · cases hy
end
end EV
/-! Statements: the rest. -/
namespace EV
open PySem L2
section
variable {G : Cfg} {fa xa : Nat → Addr} {call : Nat → List Sl → FR} {io : List Bool} {k : Nat} {lv : Bool} {X : Cx} {sc : Scope} {W : WX}
theorem tg_io {tg : Tg} {B : Bs} (h : tgOk io tg = true) (hi : IosOk io B) : ∀ p ∈ B.ios, p.1 ∉ tgIx tg := fun p hp hm => by
  have h1 := hi p hp
  cases tg with
  | nm i =>
    have e : p.1 = i := by simpa [tgIx] using hm
    have h' : (!ioAt io i) = true := h
    rw [← e, h1] at h'
    cases h'
  | tp is =>
    have h' := List.all_eq_true.mp (show (is.all fun i => !ioAt io i) = true from h) p.1 hm
    rw [h1] at h'
    cases h'
theorem each_one {t : Expr} {env : Env} (h : okE t = true) : (assignEach [t] env).map (·.2) = [assign t env] := by
  cases t <;> first
    | rfl
    | cases h
theorem er_tup {N : List Str} {a : SE} {vs : List Expr} {n : Nat} {p : Pos} (h : (erR G N lv a sc).e (.Tuple vs n p) = true) : ∃ xs, a = .tup xs ∧ (erR G N lv xs sc).es vs = true := by
  cases a <;> try (simp [erR, eF, eNo] at h; done)
  rename_i xs
  exact ⟨xs, rfl, (and2 (show (okE (.Tuple vs n p) && _) = true from h)).2⟩
/-- a tuple's items, stored one after another -/
theorem par_rd {io : List Bool} {is : List Nat} {xs : SE} {D : Ends} {σ : L2.St} {H : Hp} (h : rS X.K fa xa io W (exR G call io (.asgT is (.tup xs))).x D σ H) : rBs X.K fa xa W (evR G call xs).bs σ H fun vs H1 => gTs is vs σ H1 D.nx := by
  obtain ⟨B, F, e, hi, r, q⟩ := h
  have q' : OutP X.K fa xa W B F D (if is.all (fun i => !ioAt io i) = true then ((((evR G call xs).bs e).bind fun bs e1 => match ress e1 bs with
    | some ds => if lineOk ds.length then .ok (.tup ds, false) (frzs e1 bs) else .st
    | none => .st) : R (EV.D × Bool)).out fun x e1 => match tgD (.tp is) x.1 e1 with
      | some e2 => .nx e2
      | none => .st
    else .st) := q
  by_cases hio : is.all (fun i => !ioAt io i) = true
  · rw [if_pos hio] at q'
    have q2 := OutP.run (σ := σ) q' (Le.refl F)
    refine ⟨B, F, e, r, (XP.run q2 (Le.refl F)).imp fun bs e1 _ q3 F1 H1 vs l1 r1 bv => ?_⟩
    cases z : ress e1 bs with
    | none =>
      simp only [z] at q3
      exact q3.elim
    | some ds =>
      simp only [z] at q3
      split at q3
      · obtain ⟨F2, l2, r2, dr⟩ := SR.frzBs r1 bv z
        have q4 : OutP X.K fa xa W B F D (match setAll is ds (frzs e1 bs) with
          | some e2 => .nx e2
          | none => .st) := q3
        cases z2 : setAll is ds (frzs e1 bs) with
        | none =>
          simp only [z2] at q4
          exact q4.elim
        | some e2 =>
          simp only [z2] at q4
          exact gTs_ok r2 dr z2 (tg_io (tg := .tp is) hio hi) fun σ' r3 _ _ => q4 F2 σ' H1 (l1.trans l2) r3
      · exact q3.elim
  · rw [if_neg hio] at q'
    exact q'.elim
theorem st_asgT (g : GoodS G fa xa call k lv X sc W) (is : List Nat) (a : SE) : SndB G fa xa call io lv X sc W (.asgT is a) := by
  have A := snd a X sc W g.toGoodE
  refine SndS.of fun y hy => ?_
  split at hy
  · rename_i es n p e' ps
    obtain ⟨hy', h4⟩ := and2 hy
    clear hy
    obtain ⟨h1, h2, h3⟩ := and3 hy'
    clear hy'
    have hs : swapsWithSole [.Tuple es n p] e' ps.line X.env = pure false := by
      cases e' <;> first
        | rfl
        | (exfalso; cases a <;> (simp [erR, eF, eNo] at h3; done))
        | skip
      all_goals rfl
    have plain : swappedStores [.Tuple es n p] e' X.env = pure none → PS X (.Assign [.Tuple es n p] e' ps) (rS X.K fa xa io W (exR G call io (.asgT is a)).x) := fun sw => by
      refine PS.imp (ps_asg (A.e _ h3) (tg_pg g.scope (fun x _ => g.fn x) g.nd (g.calm h1) h2) hs sw) fun D σ H ⟨B, F, e, hi, r, q⟩ => ?_
      have q' : OutP X.K fa xa W B F D (if is.all (fun i => !ioAt io i) = true then ((evR G call a).f e).out fun x e1 => match tgD (.tp is) x.1 e1 with
        | some e2 => .nx e2
        | none => .st
      else .st) := q
      by_cases hio : is.all (fun i => !ioAt io i) = true
      · rw [if_pos hio] at q'
        refine ⟨B, F, e, r, (OutP.run q' (Le.refl F)).imp fun x e1 _ q1 F1 H1 v l1 r1 fv => ?_⟩
        obtain ⟨F2, l2, r2, dv⟩ := r1.freeze fv
        cases z : tgD (.tp is) x.1 e1 with
        | none =>
          simp only [z] at q1
          exact q1.elim
        | some e2 =>
          simp only [z] at q1
          exact gT_ok r2 dv z (tg_io (tg := .tp is) hio hi) fun σ' r3 _ _ => q1 F2 σ' H1 (l1.trans l2) r3
      · rw [if_neg hio] at q'
        exact q'.elim
    by_cases ht : isTup e' = true
    · cases e' <;> try (cases ht)
      rename_i vs n2 p2
      rcases Bool.or_eq_true_iff.mp (show (vs.all (foldedForSure 8) || !(locAll sc es) || _) = true from h4) with hu | hu
      · rcases Bool.or_eq_true_iff.mp hu with hu | hu
        · exact plain (swF hu)
        · exact plain (swC g.scope (by simpa using hu))
      · obtain ⟨xs, ea, hxs⟩ := er_tup h3
        subst ea
        have C := snd xs X sc W g.toGoodE
        split at hu
        · rename_i x px y py va vb i j
          obtain ⟨hu, u8⟩ := and2 hu
          obtain ⟨hu, u7⟩ := and2 hu
          obtain ⟨hu, u6⟩ := and2 hu
          obtain ⟨hu, u5⟩ := and2 hu
          obtain ⟨hu, u4⟩ := and2 hu
          obtain ⟨u1, u2, u3⟩ := and3 hu
          obtain ⟨t1, t2, _⟩ := and3 (show (decide (X.N[i]? = some x) && stB sc anyB x && tgB.tgs X.N sc anyB [j] [.Name y py]) = true from h2)
          obtain ⟨t3, _⟩ := and2 (show (decide (X.N[j]? = some y) && stB sc anyB y && true) = true from (and3 (show (decide (X.N[i]? = some x) && stB sc anyB x && tgB.tgs X.N sc anyB [j] [.Name y py]) = true from h2)).2.2)
          have t3 := (and2 t3).1
          refine PS.imp (ps_par (g.calm h1) g.nd (of_decide_eq_true t1) (of_decide_eq_true t3) (of_decide_eq_true u1) (loc_of g.scope u2) (loc_of g.scope u3) (C.es _ hxs) (sw2 g.kind g.scope u2 u3 u4 (by simpa using u5) u6 u7 u8) hs) fun D σ H h => ?_
          obtain ⟨B, F, e, r, q⟩ := par_rd h
          refine ⟨B, F, e, r, q.imp fun bs e1 _ q1 F1 H1 vs l1 r1 bv => ?_⟩
          obtain ⟨v, rr, e1, v2, rr2, e2, e3, q2⟩ := q1 F1 H1 vs l1 r1 bv
          subst e1 e2 e3
          exact ⟨v, v2, rfl, q2⟩
        · rename_i x px y py w pw va vb vc i j l
          obtain ⟨hu, u15⟩ := and2 hu
          obtain ⟨hu, u14⟩ := and2 hu
          obtain ⟨hu, u13⟩ := and2 hu
          obtain ⟨hu, u12⟩ := and2 hu
          obtain ⟨hu, u11⟩ := and2 hu
          obtain ⟨hu, u10⟩ := and2 hu
          obtain ⟨hu, u9⟩ := and2 hu
          obtain ⟨hu, u8⟩ := and2 hu
          obtain ⟨hu, u7⟩ := and2 hu
          obtain ⟨hu, u6⟩ := and2 hu
          obtain ⟨hu, u5⟩ := and2 hu
          obtain ⟨hu, u4⟩ := and2 hu
          obtain ⟨u1, u2, u3⟩ := and3 hu
          obtain ⟨t1, _, h2'⟩ := and3 (show (decide (X.N[i]? = some x) && stB sc anyB x && tgB.tgs X.N sc anyB [j, l] [.Name y py, .Name w pw]) = true from h2)
          obtain ⟨t2, _, h2''⟩ := and3 (show (decide (X.N[j]? = some y) && stB sc anyB y && tgB.tgs X.N sc anyB [l] [.Name w pw]) = true from h2')
          obtain ⟨t3, _, _⟩ := and3 (show (decide (X.N[l]? = some w) && stB sc anyB w && true) = true from h2'')
          refine PS.imp (ps_par3 (g.calm h1) g.nd (of_decide_eq_true t1) (of_decide_eq_true t2) (of_decide_eq_true t3) (of_decide_eq_true u1) (of_decide_eq_true u2) (of_decide_eq_true u3) (loc_of g.scope u4) (loc_of g.scope u5) (loc_of g.scope u6) (C.es _ hxs) (sw3 g.kind g.scope u4 u5 u6 u7 u8 (by simpa using u9) (by simpa using u10) (by simpa using u11) u12 u13 u14 u15) hs) fun D σ H h => ?_
          obtain ⟨B, F, e, r, q⟩ := par_rd h
          refine ⟨B, F, e, r, q.imp fun bs e1 _ q1 F1 H1 vs l1 r1 bv => ?_⟩
          obtain ⟨v, rr, e1, v2, rr2, e2, v3, rr3, e3, e4, q2⟩ := q1 F1 H1 vs l1 r1 bv
          subst e1 e2 e3 e4
          exact ⟨v, v2, v3, rfl, q2⟩
        · cases hu
    · exact plain (by cases e' <;> first | rfl | exact absurd rfl ht)
  · cases hy
theorem st_asgI (g : GoodS G fa xa call k lv X sc W) (i : Nat) (kx a : SE) : SndB G fa xa call io lv X sc W (.asgI i kx a) := by
  have A := snd a X sc W g.toGoodE
  have C := snd kx X sc W g.toGoodE
  refine SndS.of fun y hy => ?_
  split at hy
  · rename_i x p ke sp e' ps
    obtain ⟨h1, h2, h3⟩ := and3 hy
    clear hy
    have hv : PE X (.Name x p) (tVar i) := slot_ok g.toGoodE h1
    have ok2 := C.ok _ h2
    have hs : swapsWithSole [.Subscript (.Name x p) ke sp] e' ps.line X.env = pure false := by
      cases e' <;> rfl
    have pg : PG X (.Subscript (.Name x p) ke sp) (gSub (tVar i) (rF X.K fa xa W (evR G call kx).f) (rSetD X.K fa i)) := pg_sub hv (C.e _ h2) (set_ok (by have := g.un; omega) i) (by
      intro v
      cases ke <;> first
        | rfl
        | cases ok2)
    refine PS.imp (ps_asg (A.b _ h3) pg hs rfl) fun D σ H ⟨B, F, e, hi, r, q⟩ => ?_
    have q' : OutP X.K fa xa W B F D (((evR G call a).b e).out fun y e1 => match e1.getD i .no with
      | .ow _ => ((evR G call kx).f e1).out fun j e2 => match y.res e2 with
        | some d => match (y.frz e2).getD i .no with
          | .ow c => match setD c j.1 d with
            | some c' => .nx ((y.frz e2).set i (.ow c'))
            | none => .st
          | _ => .st
        | none => .st
      | _ => .st) := q
    refine ⟨B, F, e, r, (OutP.run q' (Le.refl F)).imp fun b e1 _ q1 F1 H1 v l1 r1 bv => ?_⟩
    cases y1 : e1.getD i .no with
    | no =>
      simp only [y1] at q1
      exact q1.elim
    | sh _ =>
      simp only [y1] at q1
      exact q1.elim
    | ow d0 =>
    simp only [y1] at q1
    obtain ⟨w0, o0, hw, _⟩ := r1.ow (getD_ow y1)
    obtain ⟨w, ew⟩ : ∃ w : V, w = .ref w0 := ⟨_, rfl⟩
    rw [← ew] at hw
    refine ⟨w, hw, B, F1, e1, r1, (OutP.run q1 l1).imp fun j e2 _ q2 F2 H2 u l2 r2 fj => ?_⟩
    obtain ⟨F3, l3, r3, dj⟩ := r2.freeze fj
    cases z : b.res e2 with
    | none =>
      simp only [z] at q2
      exact q2.elim
    | some d =>
      simp only [z] at q2
      obtain ⟨F4, l4, r4, dd, _⟩ := r3.frzB (BV.le (l2.trans l3) bv) z
      cases z2 : (b.frz e2).getD i .no with
      | no =>
        simp only [z2] at q2
        exact q2.elim
      | sh _ =>
        simp only [z2] at q2
        exact q2.elim
      | ow c =>
        simp only [z2] at q2
        cases z3 : setD c j.1 d with
        | none =>
          simp only [z3] at q2
          exact q2.elim
        | some c' =>
          simp only [z3] at q2
          refine ⟨B, F4, b.frz e2, σ, c, j.1, d, c', r4, hw, getD_ow z2, DR.le l4 _ _ dj, dd, z3, fun F' H' l' r' => ?_⟩
          exact q2 F' σ H' (((l1.trans l2).trans (l3.trans l4)).trans l') r'
  · cases hy
theorem op_aug (op : Operator) : OpR X (inplaceOp op) (rTwo X.K fa fun d d' => (augD op d d').map fun r => (r, false)) := by
  intro pins s σ H x y v u Q I rx ry h
  obtain ⟨B, F, e, τ, d, d', r, fr, hr, cx, cy, hg, q⟩ := h
  obtain ⟨z, hz, e1⟩ := map_fst hg
  cases e1
  unfold augD at hz
  split at hz
  · cases hz
    simp only [CR, DR] at cx cy
    exact iop_add pins s σ H x y v u Q I rx ry ⟨_, _, cx, cy, q.flat hr (by simp only [DR])⟩
  · cases hz
    simp only [CR, DR] at cx cy
    exact iop_sub pins s σ H x y v u Q I rx ry ⟨_, _, cx, cy, q.flat hr (by simp only [DR])⟩
  · cases hz
    simp only [CR, DR] at cx cy
    exact iop_xor pins s σ H x y v u Q I rx ry ⟨_, _, cx, cy, q.flat hr (by simp only [DR])⟩
  · split at hz
    · rename_i a b hl
      cases hz
      simp only [CR, DR] at cx cy
      have hl' : a.length + b.length ≤ sizeLine := of_decide_eq_true hl
      refine iop_add_str pins s σ H x y v u Q I rx ry ⟨_, _, cx, cy, by simpa [Str.length] using hl', q.flat hr ?_⟩
      simp only [DR]
      congr 1
      show (⟨a.toArray ++ b.toArray⟩ : Str) = _
      simp
    · cases hz
  · cases hz
theorem st_aug (g : GoodS G fa xa call k lv X sc W) (i : Nat) (op : Operator) (a : SE) : SndB G fa xa call io lv X sc W (.aug i op a) := by
  have A := snd a X sc W g.toGoodE
  refine SndS.of fun y hy => ?_
  split at hy
  · rename_i x p o e' ps
    obtain ⟨hy', h4⟩ := and2 hy
    clear hy
    obtain ⟨h1, h2, h3⟩ := and3 hy'
    clear hy'
    have e1 : o = op := of_decide_eq_true h1
    subst e1
    obtain ⟨l1, l2⟩ := st_ok (fb := anyB) g.scope (fun x _ => g.fn x) h3
    refine PS.imp (ps_aug g.nd (of_decide_eq_true h2) l1 (A.e _ h4) (op_aug (fa := fa) o) l2) fun D σ H ⟨B, F, e, hi, r, q⟩ => ?_
    have q' : OutP X.K fa xa W B F D (if ioAt io i = true then .st else match e.getD i .no with
      | .sh d => ((evR G call a).f e).out fun x e1 => (R.of (augD o d x.1) e1).out fun z e2 => .nx (e2.set i (.sh z))
      | _ => .st) := q
    by_cases hio : ioAt io i = true
    · rw [if_pos hio] at q'
      exact q'.elim
    · rw [if_neg hio] at q'
      cases z : e.getD i .no with
      | no =>
        simp only [z] at q'
        exact q'.elim
      | ow _ =>
        simp only [z] at q'
        exact q'.elim
      | sh d =>
        simp only [z] at q'
        obtain ⟨w, h1, v, h2, h3⟩ := r.at (getD_sh z)
        subst h2
        refine ⟨v, h1, B, F, e, r, (OutP.run q' (Le.refl F)).imp fun y e1 _ q1 F1 H1 u l1 r1 fv => ?_⟩
        obtain ⟨F2, l2, r2, dv⟩ := r1.freeze fv
        cases hz : augD o d y.1 with
        | none =>
          rw [hz] at q1
          exact q1.elim
        | some zz =>
          rw [hz] at q1
          refine ⟨B, F2, e1, σ, d, y.1, zz, false, r2, DR.cr r2.sub (DR.le (l1.trans l2) _ _ h3), DR.cr r2.sub dv, by simp only [hz]; rfl, fun F3 H3 w' l3 r3 fw => ?_⟩
          exact q1 F3 _ H3 ((l1.trans l2).trans l3) (r3.asgSh (fun p hp z => hio (by rw [← z]; exact hi p hp)) fw.dr)
  · cases hy
theorem st_whil (g : GoodS G fa xa call k lv X sc W) (c : SE) {b : SS} (A : SndB G fa xa call io lv X sc W b) : SndB G fa xa call io lv X sc W (.whil c b) := by
  have C := snd c X sc W g.toGoodE
  refine SndS.of fun y hy => ?_
  split at hy
  · rename_i t p ps
    obtain ⟨h1, h2⟩ := and2 hy
    refine PS.imp (ps_while g.own (C.t _ h1) (A.ss _ h2)) fun D σ H ⟨B, F, e, hi, r, q⟩ => ?_
    have q' : OutP X.K fa xa W B F D (whileL (evR G call c).t (exR G call io b).x G.fuel e) := q
    refine ⟨fun m σ H => ∃ F' e, Le F F' ∧ SR X.K fa B F' e σ H ∧ OutP X.K fa xa W B F' D (whileL (evR G call c).t (exR G call io b).x m e), ⟨G.fuel, F, e, Le.refl F, r, q'⟩, ?_⟩
    rintro m σ1 H1 ⟨F1, e1, l1, r1, q1⟩
    cases m with
    | zero => exact q1.elim
    | succ m =>
      unfold whileL at q1
      refine ⟨B, F1, e1, r1, ?_⟩
      cases ht : (evR G call c).t e1 with
      | st =>
        simp only [ht] at q1
        exact q1.elim
      | er c' e2 =>
        simp only [ht] at q1
        exact fun F2 H2 l2 r2 => q1 F2 σ1 H2 l2 r2
      | ok kk e2 =>
        intro F2 H2 l2 r2
        cases kk with
        | false =>
          simp only [ht] at q1
          rw [if_neg Bool.false_ne_true]
          exact q1 F2 σ1 H2 l2 r2
        | true =>
          simp only [ht] at q1
          rw [if_pos rfl]
          refine ⟨fun σ H => ∃ F' e, Le F F' ∧ SR X.K fa B F' e σ H ∧ OutP X.K fa xa W B F' D (whileL (evR G call c).t (exR G call io b).x m e), fun σ' H' n => ⟨m, Nat.lt_succ_self m, n⟩, B, F2, e2, hi, r2, ?_⟩
          have q2 := q1.le l2
          cases hb : (exR G call io b).x e2 with
          | nx e3 =>
            simp only [hb] at q2
            exact fun F3 σ3 H3 l3 r3 => ⟨F3, e3, (l1.trans l2).trans l3, r3, q2.le l3⟩
          | ct e3 =>
            simp only [hb] at q2
            exact fun F3 σ3 H3 l3 r3 => ⟨F3, e3, (l1.trans l2).trans l3, r3, q2.le l3⟩
          | bk e3 =>
            simp only [hb] at q2
            exact q2
          | rt d fr e3 =>
            simp only [hb] at q2
            exact q2
          | er c' e3 =>
            simp only [hb] at q2
            exact q2
          | st =>
            simp only [hb] at q2
            exact q2
  · cases hy
theorem st_for (g : GoodS G fa xa call k lv X sc W) (tg : Tg) (it : SE) {b : SS} (A : SndB G fa xa call io lv X sc W b) : SndB G fa xa call io lv X sc W (.forS tg it b) := by
  have C := snd it X sc W g.toGoodE
  refine SndS.of fun y hy => ?_
  split at hy
  · rename_i t e' p ps
    obtain ⟨hy', h4⟩ := and2 hy
    clear hy
    obtain ⟨h1, h2, h3⟩ := and3 hy'
    clear hy'
    obtain ⟨i1, i2⟩ := C.i t e' h3
    refine PS.imp (ps_for g.own (g.calm h1) i1 (tg_pg g.scope (fun x _ => g.fn x) g.nd (g.calm h1) h2) (A.ss _ h4) (fun x => folded_of i2 x)) fun D σ H ⟨B, F, e, hi, r, q⟩ => ?_
    have q' : OutP X.K fa xa W B F D (if tgOk io tg = true then ((evR G call it).i e).out fun ds e1 => forL tg (exR G call io b).x ds e1 else .st) := q
    by_cases hio : tgOk io tg = true
    · rw [if_pos hio] at q'
      refine ⟨B, F, e, r, (OutP.run q' (Le.refl F)).imp fun ds e1 _ q1 F1 H1 J l1 r1 wd => ?_⟩
      obtain ⟨Gp, Y, wk, hg, hyl⟩ := wd
      refine for_it wk (fun i σ H => ∃ F2 e, Le F1 F2 ∧ SR X.K fa B F2 e σ H ∧ OutP X.K fa xa W B F2 D (forL tg (exR G call io b).x (ds.drop i) e)) ⟨F1, e1, Le.refl F1, r1, by rw [List.drop_zero]; exact q1.le l1⟩ ?_ ?_ ?_
      · rintro i σ2 H2 _ ⟨F2, e2, l2, r2, _⟩
        exact hg H2 (l2.trans r2.sub)
      · rintro i x σ2 H2 H3 hi' ⟨F2, e2, l2, r2, q2⟩ yl
        obtain ⟨F3, d, hd, l3, r3, dr⟩ := hyl i H2 x H3 B F2 e2 σ2 hi' l2 r2 yl
        have hdrop : ds.drop i = d :: ds.drop (i + 1) := by
          obtain ⟨hlt, hv⟩ := List.getElem?_eq_some_iff.mp hd
          rw [List.drop_eq_getElem_cons hlt, hv]
        rw [hdrop] at q2
        unfold forL at q2
        cases htg : tgD tg d e2 with
        | none =>
          simp only [htg] at q2
          exact q2.elim
        | some e3 =>
          simp only [htg] at q2
          refine gT_ok r3 dr htg (tg_io hio hi) fun σ3 r4 _ _ => ⟨B, F3, e3, hi, r4, ?_⟩
          have q3 := q2.le l3
          cases hb : (exR G call io b).x e3 with
          | nx e4 =>
            simp only [hb] at q3
            exact fun F4 σ4 H4 l4 r5 => ⟨F4, e4, (l2.trans l3).trans l4, r5, q3.le l4⟩
          | ct e4 =>
            simp only [hb] at q3
            exact fun F4 σ4 H4 l4 r5 => ⟨F4, e4, (l2.trans l3).trans l4, r5, q3.le l4⟩
          | bk e4 =>
            simp only [hb] at q3
            exact q3
          | rt d fr e4 =>
            simp only [hb] at q3
            exact q3
          | er c' e4 =>
            simp only [hb] at q3
            exact q3
          | st =>
            simp only [hb] at q3
            exact q3
      · rintro σ2 H2 ⟨F2, e2, l2, r2, q2⟩
        rw [List.drop_length] at q2
        exact q2 F2 σ2 H2 (Le.refl F2) r2
    · rw [if_neg hio] at q'
      exact q'.elim
  · cases hy
theorem ex_ok (g : GoodS G fa xa call k lv X sc W) {c : Nat} {x : Str} (h : exB G c x = true) : G.exs[c]? = some x := by
  unfold exB at h
  split at h
  · rename_i y hy
    rw [hy]
    exact congrArg some (of_decide_eq_true h)
  · cases h
theorem st_raise (g : GoodS G fa xa call k lv X sc W) (c : Nat) : SndB G fa xa call io lv X sc W (.raise c) := by
  refine SndS.of fun y hy => ?_
  split at hy
  · rename_i x p m j p2 pos ps
    obtain ⟨hy', h4⟩ := and2 hy
    clear hy
    obtain ⟨h1, h2, h3⟩ := and3 hy'
    clear hy'
    obtain ⟨f1, f2, f3, f4, f5⟩ := g.facts.exc c x (ex_ok g h2)
    exact PS.imp (ps_raise (g.calm h1) g.tk (pmk_own PySem.F.excBase_ValueError f2 f1 f3 (raises_own f4 f5) (gl_ok g.toGoodE h3) (nm_ok h4).1)) fun D σ H ⟨B, F, e, hi, r, q⟩ => q F σ H (Le.refl F) r
  · cases hy
theorem st_try (g : GoodS G fa xa call k lv X sc W) {b hs : SS} (A : ∀ X sc W, GoodS G fa xa call k lv X sc W → SndB G fa xa call io lv X sc W b) (C : SndB G fa xa call io lv X sc W hs) : SndB G fa xa call io lv X sc W (.tryS b hs) := by
  refine SndS.of fun y hy => ?_
  split at hy
  · rename_i p h r ps
    obtain ⟨h1, h2, h3⟩ := and3 hy
    obtain ⟨l, hl, hw⟩ := C.hs _ h3
    refine PS.imp (ps_try_many g.stk g.frm g.tk (tb := fun W => rS X.K fa xa io W (exR G call io b).x) (fun W' pn xe tk po => (A (X.tr pn xe) sc W' { g with tk := tk, own := po }).ss _ h2) hl) fun D σ H ⟨B, F, e, hi, r, q⟩ => ⟨B, F, e, hi, r, ?_⟩
    have q' : OutP X.K fa xa W B F D (match (exR G call io b).x e with
      | .er c e1 => (exR G call io hs).h c e1
      | o => o) := q
    cases hb : (exR G call io b).x e with
    | er c e1 =>
      simp only [hb] at q'
      exact fun F' σ' H' l' r' => hw B F D c e1 hi q' F' σ' H' l' r'
    | nx e1 =>
      simp only [hb] at q'
      exact q'
    | ct e1 =>
      simp only [hb] at q'
      exact q'
    | bk e1 =>
      simp only [hb] at q'
      exact q'
    | rt d fr e1 =>
      simp only [hb] at q'
      exact q'
    | st =>
      simp only [hb] at q'
      exact q'
  · cases hy
theorem suite_ok (g : GoodS G fa xa call k lv X sc W) (a : Addr) (pn : List (Addr × Obj)) : GoodS G fa xa call k false (X.suite a pn) sc W0 where
  scope := g.scope
  nd := g.nd
  un := g.un
  calm := fun h => nomatch h
  room := fun h => nomatch h
  tk := takes0
  facts := g.facts
  calls := g.calls
  kind := g.kind
  fn := g.fn
  own := PassesOwn.never
  stk := g.stk
  frm := g.frm
theorem st_hnd (g : GoodS G fa xa call k lv X sc W) (c : Nat) {s r : SS} (A : ∀ X sc W, GoodS G fa xa call k false X sc W → SndB G fa xa call io false X sc W s) (C : SndB G fa xa call io lv X sc W r) : SndB G fa xa call io lv X sc W (.hnd c s r) := by
  refine ⟨fun _ h => (nomatch h), fun _ h => (nomatch h), fun xs hx => ?_⟩
  have hx' := hx
  clear hx
  unfold erS at hx'
  dsimp only at hx'
  split at hx'
  · rename_i x np b p pos q
    obtain ⟨hx', h5⟩ := and2 hx'
    obtain ⟨hx', h4⟩ := and2 hx'
    obtain ⟨h1, h2, h3⟩ := and3 hx'
    obtain ⟨f1, _⟩ := g.facts.exc c x (ex_ok g h1)
    obtain ⟨l, hl, hw⟩ := C.hs q h5
    refine ⟨_, .cons (c := .ref (xa c)) (ts := fun _ _ _ => rS X.K fa xa io W0 (exR G call io s).x) ⟨gl_ok g.toGoodE h2, (nm_ok h3).1, .inl f1⟩ (fun a oe cls d pn _ _ => (A _ sc W0 (suite_ok g a ((a, oe) :: pn))).ss _ h4) hl, ?_⟩
    intro B F D c' e hi q F' σ' H' l' r'
    have q' : OutP X.K fa xa W B F D (if c' < G.exs.length then (if isHd G c c' then (match (exR G call io s).x e with
      | .er _ _ => .st
      | o => o) else (exR G call io r).h c' e) else .st) := q
    by_cases hc : c' < G.exs.length
    · rw [if_pos hc] at q'
      have hm := g.facts.sub c' c (G.exs[c']) x (List.getElem?_eq_getElem hc) (ex_ok g h1)
      refine ⟨isHd G c c', hm, fun hb a ha => ?_, fun hb => ?_⟩
      · rw [if_pos hb] at q'
        refine ⟨B, F', e, hi, r', ?_⟩
        have q2 := q'.le l'
        cases hz : (exR G call io s).x e with
        | er c2 e1 =>
          simp only [hz] at q2
          exact q2.elim
        | nx e1 =>
          simp only [hz] at q2
          exact q2
        | ct e1 =>
          simp only [hz] at q2
          exact q2
        | bk e1 =>
          simp only [hz] at q2
          exact q2
        | rt d fr e1 =>
          simp only [hz] at q2
          exact q2
        | st =>
          simp only [hz] at q2
          exact q2
      · rw [if_neg (by rw [hb]; exact Bool.false_ne_true)] at q'
        exact hw B F D c' e hi q' F' σ' H' l' r'
    · rw [if_neg hc] at q'
      exact q'.elim
  · cases hx'
end
end EV
/-! Every statement; the defs. -/
namespace EV
open PySem L2
section
variable {G : Cfg} {fa xa : Nat → Addr} {call : Nat → List Sl → FR} {io : List Bool} {k : Nat}
theorem sndS : ∀ (s : SS) (lv : Bool) (X : Cx) (sc : Scope) (W : WX), GoodS G fa xa call k lv X sc W → SndB G fa xa call io lv X sc W s
  | .skip, lv, X, sc, W, g => st_skip g
  | .seq s r, lv, X, sc, W, g => st_seq (sndS s lv X sc W g) (sndS r lv X sc W g)
  | .expr a, lv, X, sc, W, g => st_expr g a
  | .asg i a, lv, X, sc, W, g => st_asg g i a
  | .asgT is a, lv, X, sc, W, g => st_asgT g is a
  | .asgI i kx a, lv, X, sc, W, g => st_asgI g i kx a
  | .aug i op a, lv, X, sc, W, g => st_aug g i op a
  | .ret a, lv, X, sc, W, g => st_ret g a
  | .retN, lv, X, sc, W, g => st_retN g
  | .cond c a b, lv, X, sc, W, g => st_cond g c (sndS a lv X sc W g) (sndS b lv X sc W g)
  | .forS tg it b, lv, X, sc, W, g => st_for g tg it (sndS b lv X sc W g)
  | .whil c b, lv, X, sc, W, g => st_whil g c (sndS b lv X sc W g)
  | .brk, lv, X, sc, W, g => st_brk g
  | .cont, lv, X, sc, W, g => st_cont g
  | .raise c, lv, X, sc, W, g => st_raise g c
  | .tryS b hs, lv, X, sc, W, g => st_try g (fun X sc W g => sndS b lv X sc W g) (sndS hs lv X sc W g)
  | .hnd c s r, lv, X, sc, W, g => st_hnd g c (fun X sc W g => sndS s false X sc W g) (sndS r lv X sc W g)
end
/-! ### a def -/
def plainB (ps : List Str) (a : Arguments) : Bool := a.posonlyargs.isEmpty && a.vararg.isNone && a.kwonlyargs.isEmpty && a.kwarg.isNone && a.defaults.isEmpty && decide (a.args.map (·.arg) = ps) && decide ps.Nodup
theorem zip_look : ∀ {ps : List Str} {us : List Value}, us.length = ps.length → ∀ n ∈ ps, ((ps.zip us).lookup n).isNone = false
  | [], _, _, n, h => by cases h
  | p :: ps, [], hl, n, h => by cases hl
  | p :: ps, u :: us, hl, n, h => by
    show (List.lookup n ((p, u) :: ps.zip us)).isNone = false
    rw [List.lookup_cons]
    cases e : n == p with
    | true => rfl
    | false =>
      rcases List.mem_cons.mp h with z | z
      · subst z
        simp at e
      · exact zip_look (by simpa using hl) n z
theorem zip_none {ps : List Str} {us : List Value} (hl : us.length = ps.length) : ps.filter (fun n => ((ps.zip us).lookup n).isNone) = [] := by
  refine List.filter_eq_nil_iff.mpr fun n hn => ?_
  rw [zip_look hl n hn]
  exact Bool.false_ne_true
theorem fm_congr {α β : Type} {f g : α → Option β} : ∀ {l : List α}, (∀ x ∈ l, f x = g x) → l.filterMap f = l.filterMap g
  | [], _ => rfl
  | x :: l, h => by
    rw [List.filterMap_cons, List.filterMap_cons, h x List.mem_cons_self, fm_congr fun y hy => h y (List.mem_cons_of_mem _ hy)]
theorem zip_all : ∀ {ps : List Str} {us : List Value}, us.length = ps.length → ps.Nodup → ps.filterMap (fun n => ((ps.zip us).lookup n).map fun v => (n, v)) = ps.zip us
  | [], _, _, _ => by simp
  | p :: ps, [], hl, _ => by cases hl
  | p :: ps, u :: us, hl, nd => by
    obtain ⟨h1, h2⟩ := List.nodup_cons.mp nd
    have ih := zip_all (ps := ps) (us := us) (by simpa using hl) h2
    show List.filterMap (fun n => (List.lookup n ((p, u) :: ps.zip us)).map fun v => (n, v)) (p :: ps) = (p, u) :: ps.zip us
    rw [List.filterMap_cons, List.lookup_cons]
    simp only [beq_self_eq_true, Option.map_some]
    congr 1
    refine Eq.trans (fm_congr fun n hn => ?_) ih
    rw [List.lookup_cons]
    have : (n == p) = false := by
      refine beq_eq_false_iff_ne.mpr fun e => ?_
      subst e
      exact h1 hn
    simp only [this]
theorem plain_bind {x qual : Str} {params : Arguments} {body : List Stmt} {scope : Scope} {kV doc pm : Value} {an : Option Addr} {cdv ct : Value} {ps : List Str} {us : List Value} (h : plainB ps params = true) (hl : us.length = ps.length) :
    bindArgs (PySem.W.fnOf x qual params body scope .none kV doc pm an cdv ct) ⟨us, []⟩ = pure (ps.zip us) := by
  obtain ⟨po, as, va, ko, kd, kw, df⟩ := params
  obtain ⟨h, h7⟩ := and2 h
  obtain ⟨h, h6⟩ := and2 h
  obtain ⟨h, h5⟩ := and2 h
  obtain ⟨h, h4⟩ := and2 h
  obtain ⟨h1, h2, h3⟩ := and3 h
  have h6' : as.map (·.arg) = ps := of_decide_eq_true h6
  have h7' := of_decide_eq_true h7
  cases po with
  | cons _ _ => cases h1
  | nil =>
  cases va with
  | some _ => cases h2
  | none =>
  cases ko with
  | cons _ _ => cases h3
  | nil =>
  cases kw with
  | some _ => cases h4
  | none =>
  cases df with
  | cons _ _ => cases h5
  | nil =>
  unfold bindArgs
  simp only [PySem.W.fnOf, List.map_nil, List.nil_append, h6', List.forIn_nil, pure_bind, bind_pure_comp, seqItems?, Option.getD_none, List.append_nil, hl]
  simp [zip_none hl, zip_all hl h7']
  rfl
def scB (N ps : List Str) (sc : Scope) : Bool := (match sc.kind with | .function => true | _ => false) && !sc.isCoroutine && !sc.isGenerator && decide N.Nodup && decide (N.take ps.length = ps) &&
  (ps.all fun x => locB sc x || (match sc.names.lookup x with | some .cell => true | _ => false)) && sc.names.all fun y => (match y.2 with | .free => false | _ => true)
theorem scB_ok {N ps : List Str} {sc : Scope} (h : scB N ps sc = true) : FnScope N ps sc := by
  obtain ⟨h, h7⟩ := and2 h
  obtain ⟨h, h6⟩ := and2 h
  obtain ⟨h, h5⟩ := and2 h
  obtain ⟨h, h4⟩ := and2 h
  obtain ⟨h1, h2, h3⟩ := and3 h
  refine ⟨?_, by simpa using h2, by simpa using h3, of_decide_eq_true h4, of_decide_eq_true h5, fun x hx => ?_, fun y hy e => ?_⟩
  · split at h1
    · assumption
    · cases h1
  · have q := List.all_eq_true.mp h6 x hx
    rcases Bool.or_eq_true_iff.mp q with z | z
    · unfold locB at z
      split at z
      · exact .inl (by assumption)
      · cases z
    · split at z
      · exact .inr (by assumption)
      · cases z
  · have q := List.all_eq_true.mp h7 y hy
    rw [e] at q
    cases q
/-- one def is what the evaluator's text says -/
def defB (G : Cfg) (fi : Fn) (d : He.DefD) : Bool := decide (d.at_ = (fi.name, none)) && d.dfl.isEmpty && d.kwd.isEmpty && decide (fi.np ≤ fi.N.length) && plainB (fi.N.take fi.np) d.params && scB fi.N (fi.N.take fi.np) d.scope && (erS G fi.N d.scope fi.body true).ss d.body
section
variable {P : Program} {w : World} {K : PySem.W.Frag} {mg : Str → Option Value} {base : Heap} {G : Cfg} {fa xa : Nat → Addr} {k f : Nat} {fi : Fn} {d : He.DefD} {fd : FuncData}
theorem np_len (hn : fi.np ≤ fi.N.length) : (fi.N.take fi.np).length = fi.np := by
  rw [List.length_take]
  omega
theorem body_ok (ck : defB G fi d = true) (hf : G.fns[f]? = some fi) (F : FunD K d.name d.qual d.params d.body d.scope (d.dvs K) (d.kws K) (fa f) fd) (facts : Facts K mg G fa xa) (calls : Calls P w K mg base G fa xa (fnEval G k) k) :
    FnOk P w K mg base (L2.CX P w) (k + 1) (fa f) fd (fi.N.take fi.np) (spFn K fa xa fi (fnEval G (k + 1)) f) := by
  obtain ⟨ck, c7⟩ := and2 ck
  obtain ⟨ck, c6⟩ := and2 ck
  obtain ⟨ck, c5⟩ := and2 ck
  obtain ⟨ck, c4⟩ := and2 ck
  have hn := of_decide_eq_true c4
  have S := scB_ok c6
  refine F.ok S (fun vs H Q E h => ?_) fun cdv A outer s H vs Q E hr h => ?_
  · obtain ⟨_, _, _, _, h, _⟩ := h
    rw [h, np_len hn]
  · have g : GoodS G fa xa (fnEval G k) k true (cxOf (L2.CX P w) P w K mg base fi.N d.qual d.scope (fa f) cdv A outer s H E) d.scope (fun cls dd _ H => E cls dd H) :=
      { scope := rfl
        nd := S.nd
        un := by have z := hr.un; exact Nat.lt_of_le_of_lt (by show _ + 65 ≤ _ + 16 * k + 200; exact Nat.add_le_add (Nat.le_add_right _ _) (by decide)) z
        calm := fun _ => rfl
        room := fun _ => hr
        tk := takes_of rfl rfl rfl rfl
        facts := facts
        calls := calls
        kind := S.kind
        fn := fun _ => rfl
        own := passes_of rfl
        stk := rfl
        frm := rfl }
    refine ⟨_, (sndS (io := fi.io) fi.body true _ d.scope _ g).ss _ c7, ?_⟩
    obtain ⟨F, sls, IO, ios, h1, h2, h3, h4, h5⟩ := h
    refine ⟨⟨F, H, IO, ios⟩, F, frame fi sls, h4, h3, ?_⟩
    unfold fnEval at h5
    simp only [hf, if_pos h2.symm] at h5
    have fr : sls ++ List.replicate (fi.N.length - sls.length) Sl.no = frame fi sls := rfl
    rw [fr] at h5
    cases z : (exR G (fnEval G k) fi.io fi.body).x (frame fi sls) with
    | nx e =>
      simp only [z] at h5
      exact fun F' σ' H' l r => h5 F' σ' H' .non l r (FV.sh (by simp only [DR]))
    | rt dd fr e =>
      simp only [z] at h5
      exact h5
    | er c e =>
      simp only [z] at h5
      exact h5
    | bk e =>
      simp only [z] at h5
    | ct e =>
      simp only [z] at h5
    | st =>
      simp only [z] at h5
theorem zero_ok (hn : fi.np ≤ fi.N.length) : FnOk P w K mg base (L2.CX P w) 0 (fa f) fd (fi.N.take fi.np) (spFn K fa xa fi (fnEval G 0) f) := by
  refine ⟨fun vs H Q E h => ?_, fun A outer s H args us vs Q E hr e0 hb r h => ?_⟩
  · obtain ⟨_, _, _, _, h, _⟩ := h
    rw [h, np_len hn]
  · obtain ⟨_, _, _, _, _, _, _, _, h⟩ := h
    exact h.elim
/-- every def -/
def allB (G : Cfg) (fn : List He.DefD) : Bool := decide (G.fns.length = fn.length) && (List.range G.fns.length).all fun i => match G.fns[i]?, fn[i]? with
  | some fi, some d => defB G fi d
  | _, _ => false
theorem levels {fn : List He.DefD} (ck : allB G fn = true) (hd : ∀ (f : Nat) (d : He.DefD), fn[f]? = some d → ∃ fd, FunD K d.name d.qual d.params d.body d.scope (d.dvs K) (d.kws K) (He.fAd K d.at_) fd) (hfa : ∀ (f : Nat) (fi : Fn), G.fns[f]? = some fi → fa f = He.ga K fi.name)
    (facts : Facts K mg G fa xa) : ∀ k, Calls P w K mg base G fa xa (fnEval G k) k := by
  obtain ⟨c1, c2⟩ := and2 ck
  have one : ∀ (f : Nat) (fi : Fn), G.fns[f]? = some fi → ∃ d fd, defB G fi d = true ∧ FunD K d.name d.qual d.params d.body d.scope (d.dvs K) (d.kws K) (fa f) fd := fun f fi hf => by
    have hlt : f < G.fns.length := (List.getElem?_eq_some_iff.mp hf).1
    have q := List.all_eq_true.mp c2 f (List.mem_range.mpr hlt)
    cases z : fn[f]? with
    | none =>
      rw [hf, z] at q
      cases q
    | some d =>
      simp only [hf, z] at q
      obtain ⟨fd, F⟩ := hd f d z
      have q0 := q
      obtain ⟨q, _⟩ := and2 q
      obtain ⟨q, _⟩ := and2 q
      obtain ⟨q, _⟩ := and2 q
      obtain ⟨q, _⟩ := and2 q
      obtain ⟨e1, _, _⟩ := and3 q
      have e1' : d.at_ = (fi.name, none) := of_decide_eq_true e1
      rw [e1'] at F
      have e2 : He.fAd K (fi.name, none) = fa f := (hfa f fi hf).symm
      rw [e2] at F
      exact ⟨d, fd, q0, F⟩
  have bnd : ∀ {d : He.DefD} {fi : Fn} {f : Nat} {fd : FuncData}, defB G fi d = true → FunD K d.name d.qual d.params d.body d.scope (d.dvs K) (d.kws K) (fa f) fd → PySem.W.keepIn K (.ref (fa f)) = true ∧ Binds K fd (fi.N.take fi.np) [] := fun {d fi f fd} ck F => by
    obtain ⟨ck, _⟩ := and2 ck
    obtain ⟨ck, _⟩ := and2 ck
    obtain ⟨ck, c5⟩ := and2 ck
    obtain ⟨ck, _⟩ := and2 ck
    obtain ⟨_, c2, c3⟩ := and3 ck
    refine ⟨F.kp, ?_⟩
    have e0 : d.dvs K = [] := by
      unfold He.DefD.dvs
      cases y : d.dfl with
      | nil => rfl
      | cons _ _ =>
        rw [y] at c2
        cases c2
    rw [e0] at F
    exact F.bindsN fun kV doc pm an cdv ct us hl => plain_bind c5 hl
  intro k
  induction k with
  | zero =>
    intro f fi hf
    obtain ⟨d, fd, ck, F⟩ := one f fi hf
    obtain ⟨b1, b2⟩ := bnd ck F
    exact ⟨fd, zero_ok (facts.fn f fi hf).2, b1, b2⟩
  | succ k ih =>
    intro f fi hf
    obtain ⟨d, fd, ck, F⟩ := one f fi hf
    obtain ⟨b1, b2⟩ := bnd ck F
    exact ⟨fd, body_ok ck hf F facts ih, b1, b2⟩
end
end EV
/-! From the head to the law. -/
namespace EV
open PySem L2
def gloIn (fa : List He.Fa) (x : Str) : Bool := fa.any fun f => match f with
  | .glo y => decide (y = x)
  | _ => false
def freeIn (fa : List He.Fa) (x : Str) : Bool := fa.any fun f => match f with
  | .free y => decide (y = x)
  | _ => false
def excIn (fa : List He.Fa) (x : Str) : Bool := fa.any fun f => match f with
  | .exc y => decide (y = x)
  | _ => false
def exmIn (fa : List He.Fa) (x y : Str) (b : Bool) : Bool := fa.any fun f => match f with
  | .exm u v c => decide (u = x) && decide (v = y) && (c == b)
  | _ => false
def datIn (fa : List He.Fa) (x : Str) (d : D) : Bool := fa.any fun f => match f, d with
  | .int y i, .int j => decide (y = x) && decide (i = j)
  | .str y z, .str s => decide (y = x) && decide (z.cps.toList = s)
  | _, _ => false
def factsB (G : Cfg) (fa : List He.Fa) : Bool := (G.fns.all fun fi => gloIn fa fi.name && decide (fi.np ≤ fi.N.length)) && blts.all (freeIn fa) && (G.exs.all fun x => gloIn fa x && excIn fa x) &&
  ((List.range G.exs.length).all fun c => (List.range G.exs.length).all fun h => match G.exs[c]?, G.exs[h]? with
    | some x, some y => exmIn fa x y (isHd G h c)
    | _, _ => false) && G.glos.all fun p => datIn fa p.1 p.2
section
variable {K : PySem.W.Frag} {h : Heap} {mg : Str → Option Value} {G : Cfg} {fa : List He.Fa}
def fOf (K : PySem.W.Frag) (G : Cfg) (f : Nat) : Addr := match G.fns[f]? with
  | some fi => He.ga K fi.name
  | none => 0
def xOf (K : PySem.W.Frag) (G : Cfg) (c : Nat) : Addr := match G.exs[c]? with
  | some x => He.ga K x
  | none => 0
theorem facts_of (X : K.In h) (N : h.Ns mainGlobals mg) (hk : ∀ f ∈ fa, f.ok K = true) (ck : factsB G fa = true) : Facts K mg G (fOf K G) (xOf K G) := by
  obtain ⟨ck, c5⟩ := and2 ck
  obtain ⟨ck, c4⟩ := and2 ck
  obtain ⟨c1, c2, c3⟩ := and3 ck
  have glo : ∀ {x : Str}, gloIn fa x = true → mg x = some (.ref (He.ga K x)) := fun {x} q => by
    obtain ⟨f, hf, q⟩ := List.any_eq_true.mp q
    cases f <;> try (cases q)
    rename_i y
    have e1 : y = x := of_decide_eq_true q
    subst e1
    exact He.glo_ok X N (hk _ hf)
  refine ⟨fun g x d hg => ?_, fun f fi hf => ?_, fun x hx => ?_, fun c x hc => ?_, fun c h x y hc hh => ?_⟩
  · obtain ⟨f, hf, q⟩ := List.any_eq_true.mp (List.all_eq_true.mp c5 _ (List.mem_of_getElem? hg))
    cases f <;> cases d <;> try (cases q)
    · rename_i y i j
      obtain ⟨q1, q2⟩ := and2 q
      have e1 : y = x := of_decide_eq_true q1
      have e2 : i = j := of_decide_eq_true q2
      subst e1 e2
      obtain ⟨t, ht⟩ := He.int_ok X N (hk _ hf)
      exact ⟨_, .int i, ht, ⟨t, rfl⟩, fun F => by simp only [DR]⟩
    · rename_i y z s
      obtain ⟨q1, q2⟩ := and2 q
      have e1 : y = x := of_decide_eq_true q1
      have e2 : z.cps.toList = s := of_decide_eq_true q2
      subst e1 e2
      obtain ⟨t, ht⟩ := He.str_ok X N (hk _ hf)
      exact ⟨_, .str z, ht, ⟨t, rfl⟩, fun F => by simp only [DR]⟩
  · obtain ⟨q1, q2⟩ := and2 (List.all_eq_true.mp c1 _ (List.mem_of_getElem? hf))
    refine ⟨?_, of_decide_eq_true q2⟩
    unfold fOf
    rw [hf]
    exact glo q1
  · obtain ⟨f, hf, q⟩ := List.any_eq_true.mp (List.all_eq_true.mp c2 x hx)
    cases f <;> try (cases q)
    rename_i y
    have e1 : y = x := of_decide_eq_true q
    subst e1
    exact He.free_ok X N (hk _ hf)
  · obtain ⟨q1, q2⟩ := and2 (List.all_eq_true.mp c3 _ (List.mem_of_getElem? hc))
    obtain ⟨f, hf, q⟩ := List.any_eq_true.mp q2
    cases f <;> try (cases q)
    rename_i y
    have e1 : y = x := of_decide_eq_true q
    subst e1
    unfold xOf
    rw [hc]
    exact ⟨glo q1, He.exc_ok (hk _ hf)⟩
  · have q := List.all_eq_true.mp (List.all_eq_true.mp c4 c (List.mem_range.mpr (List.getElem?_eq_some_iff.mp hc).1)) h (List.mem_range.mpr (List.getElem?_eq_some_iff.mp hh).1)
    simp only [hc, hh] at q
    obtain ⟨f, hf, q⟩ := List.any_eq_true.mp q
    cases f <;> try (cases q)
    rename_i u v b
    obtain ⟨q1, q2, q3⟩ := and3 q
    have e1 : u = x := of_decide_eq_true q1
    have e2 : v = y := of_decide_eq_true q2
    have e3 : b = isHd G h c := by simpa using q3
    subst e1 e2 e3
    unfold xOf
    rw [hc, hh]
    exact He.exm_ok (hk _ hf)
end
/-- the law's def, no exception leaves it -/
def spLaw (K : PySem.W.Frag) (G : Cfg) (fi : Fn) (k f : Nat) : Sp := fun vs H Q _ => spFn K (fOf K G) (xOf K G) fi (fnEval G k) f vs H Q fun _ _ _ => False
section
variable {P : Program} {w : World} {K : PySem.W.Frag} {h : Heap} {mg : Str → Option Value} {base : Heap} {G : Cfg} {fa : List He.Fa} {fn : List He.DefD} {f k : Nat} {fi : Fn}
theorem spLaw_start {ns : List Int} {a : Addr} {H : Hp} (hn : fi.np = 1) (hN : 1 ≤ fi.N.length) (hS : SqL K H a (ns.map V.int)) (he : ∃ fr e, fnEval G k f [.sh (.scr ns)] = .ok (.bl true) fr e) :
    spLaw K G fi k f [.ref a] H (fun v _ => v = .bl true) fun _ _ _ => False := by
  obtain ⟨fr, e, he⟩ := he
  have fg : ∀ {j : Nat} {s : Sl}, (frame fi [.sh (.scr ns)])[j]? = some s → (j = 0 ∧ s = .sh (.scr ns)) ∨ s = .no := fun {j s} h => by
    unfold frame at h
    cases j with
    | zero => exact .inl ⟨rfl, (Option.some.inj h).symm⟩
    | succ j =>
      simp only [List.cons_append, List.nil_append, List.getElem?_cons_succ] at h
      exact .inr (List.mem_replicate.mp (List.mem_of_getElem? h)).2
  have noow : ∀ {j : Nat} {d : D}, (frame fi [.sh (.scr ns)])[j]? ≠ some (.ow d) := fun {j d} q => by
    rcases fg q with ⟨_, z⟩ | z <;> cases z
  refine ⟨H, [.sh (.scr ns)], [], [], by rw [hn]; rfl, by rw [hn]; rfl, ⟨Le.refl H, Le.refl H, fun a o q1 q2 => ?_, fun _ _ q _ => q, fun _ z => (nomatch z), fun _ z => (nomatch z), ?_, fun j s w q1 q2 => ?_, fun j d a q1 _ => (noow q1).elim, fun j j' d d' a q1 _ _ _ => (noow q1).elim⟩, fun _ z => (nomatch z), ?_⟩
  · have q2' : H a = none := q2
    rw [q2'] at q1
    cases q1
  · unfold frame L2.start
    simp
  · rcases fg q1 with ⟨rfl, z⟩ | z
    · subst z
      have e1 : w = some (.ref a) := by
        have : (L2.start fi.N [V.ref a])[0]? = some (some (.ref a)) := rfl
        rw [this] at q2
        exact (Option.some.inj q2).symm
      subst e1
      exact ⟨_, rfl, by simp only [DR]; exact ⟨a, rfl, hS⟩⟩
    · subst z
      exact True.intro
  · rw [he]
    intro F' σ' H' v _ _ fv
    cases fr with
    | false =>
      have z := fv.dr
      simp only [DR] at z
      exact z
    | true =>
      obtain ⟨p, o, _, _, z, _⟩ := fv.new
      cases z
theorem law_ok {d : He.DefD} (X : K.In h) (N : h.Ns mainGlobals mg) (hk : ∀ f ∈ fa, f.ok K = true) (hd : ∀ (f : Nat) (d : He.DefD), fn[f]? = some d → ∃ fd, FunD K d.name d.qual d.params d.body d.scope (d.dvs K) (d.kws K) (He.fAd K d.at_) fd)
    (ck : allB G fn = true) (cf : factsB G fa = true) (hf : G.fns[f]? = some fi) (hfd : fn[f]? = some d) :
    ∃ fd, (∀ (s : Shared) (us : List Value), us.length = fi.np → BindsTo s fd ⟨us, []⟩ ((fi.N.take fi.np).zip us)) ∧ ∀ base, FnOk P w K mg base CX0 (k + 1) (fOf K G f) fd (fi.N.take fi.np) (spLaw K G fi (k + 1) f) := by
  have FX := facts_of (G := G) X N hk cf
  have hfa : ∀ (f : Nat) (fi : Fn), G.fns[f]? = some fi → fOf K G f = He.ga K fi.name := fun f fi hf => by unfold fOf; rw [hf]
  obtain ⟨fd, F⟩ := hd f d hfd
  have q := List.all_eq_true.mp (and2 ck).2 f (List.mem_range.mpr (List.getElem?_eq_some_iff.mp hf).1)
  simp only [hf, hfd] at q
  have q0 := q
  obtain ⟨q, _⟩ := and2 q
  obtain ⟨q, _⟩ := and2 q
  obtain ⟨q, c5⟩ := and2 q
  obtain ⟨q, c4⟩ := and2 q
  obtain ⟨e1, e2, e3⟩ := and3 q
  have e1' : d.at_ = (fi.name, none) := of_decide_eq_true e1
  rw [e1'] at F
  have e4 : He.fAd K (fi.name, none) = fOf K G f := (hfa f fi hf).symm
  rw [e4] at F
  refine ⟨fd, ?_, fun base => ?_⟩
  · have e0 : d.dvs K = [] := by
      unfold He.DefD.dvs
      cases y : d.dfl with
      | nil => rfl
      | cons _ _ =>
        rw [y] at e2
        cases e2
    rw [e0] at F
    intro s us hl
    exact F.bindsA (ps := fi.N.take fi.np) (fun kV doc pm an cdv ct us hl => plain_bind c5 hl) s us (by rw [np_len (of_decide_eq_true c4)]; exact hl)
  · have FO := body_ok (base := base) (w := w) (P := P) q0 hf F FX (levels (P := P) (w := w) (base := base) ck hd hfa FX k)
    refine ⟨fun vs H Q E h => FO.len vs H Q _ h, fun A outer s H args us vs Q E hr e0 hb r h => ?_⟩
    refine codeAny_mono (FO.run A outer s H args us vs Q _ hr e0 hb r h) fun r s' hq => ?_
    cases r with
    | error e =>
      obtain ⟨_, _, _, _, _, _, _, _, _, _, _, _, z⟩ := (show L2.CX P w outer H s (fun _ _ _ => False) e s' from hq)
      exact z.elim
    | ok fl => cases fl <;> exact hq
/-- all that the walk asks -/
theorem law_end {d : He.DefD} {fad : Addr} (X : K.In h) (N : h.Ns mainGlobals mg) (c : He.SaysD fa fn K) (ck : allB G fn = true) (cf : factsB G fa = true) (hf : G.fns[f]? = some fi) (hfd : fn[f]? = some d) (hp : fi.np = 1) (hx : fi.N.take 1 = (["script"] : List Str))
    (hmg : mg fi.name = some (.ref fad)) (main : ∀ ns : List Int, ns.length ≤ 63 → ∃ fr e, fnEval G (k + 1) f [.sh (.scr ns)] = .ok (.bl true) fr e) :
    ∃ (K : PySem.W.Frag) (fd : FuncData) (sp : Sp), K.In h ∧ (∀ (s : Shared) (u : Value), BindsTo s fd ⟨[u], []⟩ [("script", u)]) ∧
      (∀ (H : Hp) (a : Addr) (ns : List Int), ns.length ≤ 63 → Only H → SqL K H a (ns.map V.int) → sp [.ref a] H (fun v _ => v = .bl true) fun _ _ _ => False) ∧
      ∀ base : Heap, K.In base → base.Ns mainGlobals mg → FnOk P w K mg base CX0 (k + 1) fad fd ["script"] sp := by
  have hk : ∀ f ∈ fa, f.ok K = true := fun f hf => by
    obtain ⟨i, hi⟩ := List.getElem?_of_mem hf
    exact c.fact i hi
  have hd : ∀ (f : Nat) (d : He.DefD), fn[f]? = some d → ∃ fd, FunD K d.name d.qual d.params d.body d.scope (d.dvs K) (d.kws K) (He.fAd K d.at_) fd := fun f d h => c.def_ f h
  obtain ⟨fd, hb, hF⟩ := law_ok (P := P) (w := w) (k := k) X N hk hd ck cf hf hfd
  have ea : fOf K G f = fad := by
    have q := (facts_of (G := G) X N hk cf).fn f fi hf
    rw [hmg] at q
    have := Option.some.inj q.1
    cases this
    rfl
  rw [ea, hp, hx] at hF
  rw [hp, hx] at hb
  refine ⟨K, fd, _, X, fun s u => hb s [u] rfl, fun H a ns hl _ hS => ?_, fun base _ _ => hF base⟩
  refine spLaw_start hp ?_ hS (main ns hl)
  have := congrArg List.length hx
  rw [List.length_take] at this
  simp at this
  omega
end
end EV
/-! Working the evaluator by hand: calls without in-out parameters, loops, comprehensions. -/
namespace EV
open PySem L2
inductive Res where
  | ok (d : D) (fr : Bool) | er (c : Nat) | st
def FR.res : FR → Res
  | .ok d fr _ => .ok d fr
  | .er c _ => .er c
  | .st => .st
def Res.put (r : Res) (e ec : Ev) : R (D × Bool) := match r with
  | .ok d fr => .ok (d, fr) (if d.flat = true then e else ec)
  | .er c => .er c ec
  | .st => .st
theorem putIos_nil (e' : Ev) : ∀ (bs : List Bor) (ec : Ev) (j : Nat), putIos e' ec j [] bs = ec
  | [], ec, j => rfl
  | b :: bs, ec, j => by
    have := putIos_nil e' bs ec (j + 1)
    cases b <;> exact this
theorem go_pure {G : Cfg} {f : Nat} {fi : Fn} (call : Nat → List Sl → FR) (bs : List Bor) (e : Ev) (hf : G.fns[f]? = some fi) (hio : fi.io = []) (hn : fi.np = bs.length) :
    goCall G call f bs e = match mkArgs e [] bs with
      | none => .st
      | some z => (call f z.1).res.put e z.2 := by
  unfold goCall
  rw [hf]
  simp only [if_pos hn]
  unfold doCall
  rw [hio]
  cases mkArgs e [] bs with
  | none => rfl
  | some z =>
    obtain ⟨sls, ec⟩ := z
    simp only
    cases call f sls with
    | st => rfl
    | er c e' =>
      simp only [putIos_nil, FR.res, Res.put]
    | ok d fr e' =>
      simp only [putIos_nil, FR.res, Res.put]
      cases d.flat <;> rfl
def Out.fr (o : Out) : FR := match o with
  | .rt d fr e => .ok d fr e
  | .nx e => .ok .non false e
  | .er c e => .er c e
  | _ => .st
theorem fn_step {G : Cfg} {f : Nat} {fi : Fn} (k : Nat) (sls : List Sl) (hf : G.fns[f]? = some fi) (hn : fi.np = sls.length) :
    fnEval G (k + 1) f sls = ((exR G (fnEval G k) fi.io fi.body).x (sls ++ List.replicate (fi.N.length - sls.length) .no)).fr := by
  conv => lhs; unfold fnEval
  rw [hf]
  simp only [if_pos hn]
  rfl
def Out.res (o : Out) : Res := match o with
  | .rt d fr _ => .ok d fr
  | .nx _ => .ok .non false
  | .er c _ => .er c
  | _ => .st
theorem fn_res {G : Cfg} {f : Nat} {fi : Fn} (k : Nat) (sls : List Sl) (hf : G.fns[f]? = some fi) (hn : fi.np = sls.length) :
    (fnEval G (k + 1) f sls).res = ((exR G (fnEval G k) fi.io fi.body).x (sls ++ List.replicate (fi.N.length - sls.length) .no)).res := by
  rw [fn_step k sls hf hn]
  cases (exR G (fnEval G k) fi.io fi.body).x (sls ++ List.replicate (fi.N.length - sls.length) .no) <;> rfl
theorem fn_at {G : Cfg} {f : Nat} {np : Nat} {name : Str} {N : List Str} {io : List Bool} {body : SS} (k : Nat) (sls e0 : List Sl) (hf : G.fns[f]? = some ⟨name, np, N, io, body⟩) (hn : np = sls.length) (he : sls ++ List.replicate (N.length - sls.length) .no = e0) :
    (fnEval G (k + 1) f sls).res = ((exR G (fnEval G k) io body).x e0).res := by
  rw [fn_res k sls hf hn, he]
theorem seq_nx {G : Cfg} {call : Nat → List Sl → FR} {io : List Bool} {s r : SS} {e e1 : Ev} (h : (exR G call io s).x e = .nx e1) : (exR G call io (.seq s r)).x e = (exR G call io r).x e1 := by
  show (match (exR G call io s).x e with
    | .nx e1 => (exR G call io r).x e1
    | o => o) = _
  rw [h]
theorem for_nx {G : Cfg} {call : Nat → List Sl → FR} {io : List Bool} {tg : Tg} {it : SE} {b : SS} {e e1 e2 : Ev} {ds : List D} (hio : tgOk io tg = true) (h : (evR G call it).i e = .ok ds e1) (h2 : forL tg (exR G call io b).x ds e1 = .nx e2) : (exR G call io (.forS tg it b)).x e = .nx e2 := by
  show (if tgOk io tg = true then ((evR G call it).i e).out fun ds e1 => forL tg (exR G call io b).x ds e1 else .st) = _
  rw [if_pos hio, h]
  exact h2
section
variable {G : Cfg} {call : Nat → List Sl → FR} {io : List Bool} {a c : SE} {s r : SS} {i : Nat} {e e1 : Ev} {x : D × Bool}
theorem asg_nx (h : (evR G call a).f e = .ok x e1) (hi : ioAt io i = false) : (exR G call io (.asg i a)).x e = .nx (e1.set i (mkSl x.1 x.2)) := by
  show (if ioAt io i = true then .st else ((evR G call a).f e).out fun x e1 => .nx (e1.set i (mkSl x.1 x.2))) = _
  rw [hi, if_neg Bool.false_ne_true, h]
  rfl
theorem expr_nx (h : (evR G call a).f e = .ok x e1) : (exR G call io (.expr a)).x e = .nx e1 := by
  show (((evR G call a).f e).out fun _ e1 => Out.nx e1) = _
  rw [h]
  rfl
theorem expr_er {c : Nat} (h : (evR G call a).f e = .er c e1) : (exR G call io (.expr a)).x e = .er c e1 := by
  show (((evR G call a).f e).out fun _ e1 => Out.nx e1) = _
  rw [h]
  rfl
theorem aug_nx {op : Operator} {d z : D} (hi : ioAt io i = false) (h0 : e.getD i .no = .sh d) (h : (evR G call a).f e = .ok x e1) (hz : augD op d x.1 = some z) : (exR G call io (.aug i op a)).x e = .nx (e1.set i (.sh z)) := by
  show (if ioAt io i = true then .st else match e.getD i .no with
    | .sh d => ((evR G call a).f e).out fun x e1 => (R.of (augD op d x.1) e1).out fun z e2 => .nx (e2.set i (.sh z))
    | _ => .st) = _
  rw [hi, if_neg Bool.false_ne_true, h0]
  show (((evR G call a).f e).out fun x e1 => (R.of (augD op d x.1) e1).out fun z e2 => Out.nx (e2.set i (.sh z))) = _
  rw [h]
  show ((R.of (augD op d x.1) e1).out fun z e2 => Out.nx (e2.set i (.sh z))) = _
  rw [hz]
  rfl
theorem cond_tt (h : (evR G call c).t e = .ok true e1) : (exR G call io (.cond c s r)).x e = (exR G call io s).x e1 := by
  show (((evR G call c).t e).out fun k e1 => match k with
    | true => (exR G call io s).x e1
    | false => (exR G call io r).x e1) = _
  rw [h]
  rfl
theorem cond_ff (h : (evR G call c).t e = .ok false e1) : (exR G call io (.cond c s r)).x e = (exR G call io r).x e1 := by
  show (((evR G call c).t e).out fun k e1 => match k with
    | true => (exR G call io s).x e1
    | false => (exR G call io r).x e1) = _
  rw [h]
  rfl
theorem ret_sh {d : D} (hi : ioAt io i = false) (h : e.getD i .no = .sh d) : (exR G call io (.ret (.var i))).x e = .rt d false e := by
  show (if ioAt io i = true then ((evR G call (.var i)).f e).out fun x e1 => .rt x.1 x.2 e1 else match e.getD i .no with
      | .no => .st
      | .sh d => .rt d false e
      | .ow d => .rt d true (e.set i .no)) = _
  rw [hi, if_neg Bool.false_ne_true, h]
theorem ret_ow {d : D} (hi : ioAt io i = false) (h : e.getD i .no = .ow d) : (exR G call io (.ret (.var i))).x e = .rt d true (e.set i .no) := by
  show (if ioAt io i = true then ((evR G call (.var i)).f e).out fun x e1 => .rt x.1 x.2 e1 else match e.getD i .no with
      | .no => .st
      | .sh d => .rt d false e
      | .ow d => .rt d true (e.set i .no)) = _
  rw [hi, if_neg Bool.false_ne_true, h]
theorem ret_f (hv : ∀ i, a ≠ .var i) (h : (evR G call a).f e = .ok x e1) : (exR G call io (.ret a)).x e = .rt x.1 x.2 e1 := by
  have z : (exR G call io (.ret a)).x e = ((evR G call a).f e).out fun x e1 => .rt x.1 x.2 e1 := by
    cases a <;> first
      | rfl
      | exact absurd rfl (hv _)
  rw [z, h]
  rfl
theorem ret_er {c : Nat} (hv : ∀ i, a ≠ .var i) (h : (evR G call a).f e = .er c e1) : (exR G call io (.ret a)).x e = .er c e1 := by
  have z : (exR G call io (.ret a)).x e = ((evR G call a).f e).out fun x e1 => .rt x.1 x.2 e1 := by
    cases a <;> first
      | rfl
      | exact absurd rfl (hv _)
  rw [z, h]
  rfl
theorem seq_rt {d : D} {fr : Bool} (h : (exR G call io s).x e = .rt d fr e1) : (exR G call io (.seq s r)).x e = .rt d fr e1 := by
  show (match (exR G call io s).x e with
    | .nx e1 => (exR G call io r).x e1
    | o => o) = _
  rw [h]
theorem seq_er {c : Nat} (h : (exR G call io s).x e = .er c e1) : (exR G call io (.seq s r)).x e = .er c e1 := by
  show (match (exR G call io s).x e with
    | .nx e1 => (exR G call io r).x e1
    | o => o) = _
  rw [h]
theorem skip_nx : (exR G call io .skip).x e = .nx e := rfl
theorem raise_er {c : Nat} : (exR G call io (.raise c)).x e = .er c e := rfl
end
section
variable {G : Cfg} {call : Nat → List Sl → FR} {a xs : SE} {e e1 e2 : Ev} {x : D × Bool}
theorem bi_f {b : Bi} {bs : List Bor} {ds : List D} (h : (evR G call xs).bs e = .ok bs e1) (h2 : ress e1 bs = some ds) (h3 : biD b ds = some x) : (evR G call (.bi b xs)).f e = .ok x e1 := by
  show (((evR G call xs).bs e).bind fun bs e1 => match ress e1 bs with
    | some ds => R.of (biD b ds) e1
    | none => .st) = _
  rw [h]
  show (match ress e1 bs with
    | some ds => R.of (biD b ds) e1
    | none => .st) = _
  rw [h2]
  show R.of (biD b ds) e1 = _
  rw [h3]
  rfl
theorem nil_bs : (evR G call .nil).bs e = .ok [] e := rfl
theorem cons_bs {b : Bor} {bs : List Bor} (h : (evR G call a).b e = .ok b e1) (h2 : (evR G call xs).bs e1 = .ok bs e2) : (evR G call (.cons a xs)).bs e = .ok (b :: bs) e2 := by
  show (((evR G call a).b e).bind fun b e1 => ((evR G call xs).bs e1).bind fun bs e2 => .ok (b :: bs) e2) = _
  rw [h]
  show (((evR G call xs).bs e1).bind fun bs e2 => R.ok (b :: bs) e2) = _
  rw [h2]
  rfl
theorem comp_b {el it c : SE} {tg : Tg} {own : List (Str × Nat)} (h : (evR G call (.comp el tg it c own)).f e = .ok x e1) : (evR G call (.comp el tg it c own)).b e = .ok (.dat x.1) e1 := by
  show ((evR G call (.comp el tg it c own)).f e).bind _ = _
  rw [h]
  rfl
theorem call_b {f : Nat} (h : (evR G call (.call f xs)).f e = .ok x e1) : (evR G call (.call f xs)).b e = .ok (.dat x.1) e1 := by
  show ((evR G call (.call f xs)).f e).bind _ = _
  rw [h]
  rfl
theorem bi_b {b : Bi} (h : (evR G call (.bi b xs)).f e = .ok x e1) : (evR G call (.bi b xs)).b e = .ok (.dat x.1) e1 := by
  show ((evR G call (.bi b xs)).f e).bind _ = _
  rw [h]
  rfl
theorem call_f {f : Nat} {bs : List Bor} (h : (evR G call xs).bs e = .ok bs e1) : (evR G call (.call f xs)).f e = goCall G call f bs e1 := by
  show (((evR G call xs).bs e).bind fun bs e1 => goCall G call f bs e1) = _
  rw [h]
  rfl
theorem lst_f {bs : List Bor} {ds : List D} (h : (evR G call xs).bs e = .ok bs e1) (h2 : ress e1 bs = some ds) (h3 : ds.length ≤ sizeLine) : (evR G call (.lst xs)).f e = .ok (.lst ds, true) (frzs e1 bs) := by
  show (((evR G call xs).bs e).bind fun bs e1 => match ress e1 bs with
    | some ds => if lineOk ds.length then .ok (D.lst ds, true) (frzs e1 bs) else .st
    | none => .st) = _
  rw [h]
  show (match ress e1 bs with
    | some ds => if lineOk ds.length then R.ok (D.lst ds, true) (frzs e1 bs) else R.st
    | none => R.st) = _
  rw [h2]
  show (if lineOk ds.length = true then _ else _) = _
  rw [if_pos (show lineOk ds.length = true from decide_eq_true h3)]
theorem tup_f {bs : List Bor} {ds : List D} (h : (evR G call xs).bs e = .ok bs e1) (h2 : ress e1 bs = some ds) (h3 : ds.length ≤ sizeLine) : (evR G call (.tup xs)).f e = .ok (.tup ds, false) (frzs e1 bs) := by
  show (((evR G call xs).bs e).bind fun bs e1 => match ress e1 bs with
    | some ds => if lineOk ds.length then .ok (D.tup ds, false) (frzs e1 bs) else .st
    | none => .st) = _
  rw [h]
  show (match ress e1 bs with
    | some ds => if lineOk ds.length then R.ok (D.tup ds, false) (frzs e1 bs) else R.st
    | none => R.st) = _
  rw [h2]
  show (if lineOk ds.length = true then _ else _) = _
  rw [if_pos (show lineOk ds.length = true from decide_eq_true h3)]
end
theorem whil_nx {G : Cfg} {call : Nat → List Sl → FR} {io : List Bool} {c : SE} {b : SS} {e e2 : Ev} (h2 : whileL (evR G call c).t (exR G call io b).x G.fuel e = .nx e2) : (exR G call io (.whil c b)).x e = .nx e2 := h2
theorem comp_ok {G : Cfg} {call : Nat → List Sl → FR} {el it c : SE} {tg : Tg} {own : List (Str × Nat)} {e e1 e2 e3 : Ev} {ds ys : List D} (h : (evR G call it).i e = .ok ds e1) (h2 : compL (own.map (·.2)) tg (evR G call c).t (evR G call el).f ds [] e1 = .ok ys e2) (h3 : putBack e2 e1 (own.map (·.2)) = e3) :
    (evR G call (.comp el tg it c own)).f e = .ok (.lst ys, true) e3 := by
  show (((evR G call it).i e).bind fun ds e1 => (compL (own.map (·.2)) tg (evR G call c).t (evR G call el).f ds [] e1).bind fun ys e2 => .ok (D.lst ys, true) (putBack e2 e1 (own.map (·.2)))) = _
  rw [h]
  show ((compL (own.map (·.2)) tg (evR G call c).t (evR G call el).f ds [] e1).bind fun ys e2 => .ok (D.lst ys, true) (putBack e2 e1 (own.map (·.2)))) = _
  rw [h2, ← h3]
  rfl
theorem cMul_r {i j : Int} (h1 : j.natAbs ≤ 18446744073709551615) : cMul i j = true := Bool.or_eq_true_iff.mpr (.inr (Nat.ble_eq_true_of_le h1))
theorem cMul_l {i j : Int} (h1 : i.natAbs ≤ 18446744073709551615) : cMul i j = true := Bool.or_eq_true_iff.mpr (.inl (Nat.ble_eq_true_of_le h1))
theorem smallI_nat {n : Nat} (h : n < 1000000000) : smallI (n : Int) = true := Nat.ble_eq_true_of_le (by show (n : Int).natAbs ≤ _; omega)
theorem rng_len : ∀ (n : Nat) (i : Int), (rngL i n).length = n
  | 0, _ => rfl
  | n + 1, i => by rw [rngL, List.length_cons, rng_len n]
theorem rng_at : ∀ {n j : Nat} {i : Int}, j < n → (rngL i n)[j]? = some (.int (i + j))
  | 0, _, _, h => absurd h (Nat.not_lt_zero _)
  | n + 1, 0, i, _ => by simp [rngL]
  | n + 1, j + 1, i, h => by
    rw [rngL, List.getElem?_cons_succ, rng_at (n := n) (by omega)]
    congr 2
    omega
/-- a for that runs through -/
theorem for_thru {tg : Tg} {body : Ev → Out} (I : Nat → Ev → Prop) : ∀ (ds : List D) (i : Nat) (e : Ev), I i e → (∀ j d e, ds[j]? = some d → I (i + j) e → ∃ e1 e2, tgD tg d e = some e1 ∧ (body e1 = .nx e2 ∨ body e1 = .ct e2) ∧ I (i + j + 1) e2) →
    ∃ e', forL tg body ds e = .nx e' ∧ I (i + ds.length) e'
  | [], i, e, h, _ => ⟨e, rfl, h⟩
  | d :: ds, i, e, h, st => by
    obtain ⟨e1, e2, h1, h2, h3⟩ := st 0 d e rfl h
    obtain ⟨e', h4, h5⟩ := for_thru I ds (i + 1) e2 h3 fun j d e hj hI => by
      have := st (j + 1) d e (by simpa using hj) (by rw [show i + (j + 1) = i + 1 + j by omega]; exact hI)
      rw [show i + (j + 1) + 1 = i + 1 + j + 1 by omega] at this
      exact this
    refine ⟨e', ?_, by rw [List.length_cons, show i + (ds.length + 1) = i + 1 + ds.length by omega]; exact h5⟩
    unfold forL
    rw [h1]
    simp only
    rcases h2 with h2 | h2 <;> (rw [h2]; exact h4)
/-- a comprehension: what each item comes to (none: left out), the frame within J -/
theorem comp_thru {vs : List Nat} {tg : Tg} {test : Ev → R Bool} {elt : Ev → R (D × Bool)} (g : D → Option D) (J : Ev → Prop) : ∀ (ds acc : List D) (e : Ev), acc.length + ds.length ≤ sizeLine → J e →
    (∀ d ∈ ds, ∀ e, J e → ∃ e1, tgD tg d (wipeE e vs) = some e1 ∧ ((∃ e2, test e1 = .ok false e2 ∧ g d = none ∧ J e2) ∨ ∃ e2 y e3, test e1 = .ok true e2 ∧ elt e2 = .ok y e3 ∧ g d = some y.1 ∧ J e3)) →
    ∃ e', compL vs tg test elt ds acc e = .ok (acc ++ ds.filterMap g) (wipeE e' vs) ∧ J e'
  | [], acc, e, _, hJ, _ => ⟨e, by simp [compL], hJ⟩
  | d :: ds, acc, e, hl, hJ, st => by
    rw [List.length_cons] at hl
    obtain ⟨e1, h1, h2⟩ := st d List.mem_cons_self e hJ
    unfold compL
    rw [h1]
    simp only
    rcases h2 with ⟨e2, h2, h3, h4⟩ | ⟨e2, y, e3, h2, h3, h4, h5⟩
    · rw [h2]
      obtain ⟨e', k1, k2⟩ := comp_thru g J ds acc e2 (by omega) h4 fun d hd => st d (List.mem_cons_of_mem _ hd)
      exact ⟨e', by simp only [List.filterMap_cons, h3]; exact k1, k2⟩
    · rw [h2]
      simp only [h3]
      obtain ⟨e', k1, k2⟩ := comp_thru g J ds (acc ++ [y.1]) e3 (by rw [List.length_append]; simp; omega) h5 fun d hd => st d (List.mem_cons_of_mem _ hd)
      refine ⟨e', ?_, k2⟩
      rw [if_pos (by simp; omega), k1]
      simp [List.filterMap_cons, h4]
/-- a while: states S a -/
theorem while_thru {α : Type} {test : Ev → R Bool} {body : Ev → Out} (S : α → Ev → Prop) (c : α → Bool) (nx : α → α) (m : α → Nat) (P : α → Prop) (ht : ∀ a e, P a → S a e → test e = .ok (c a) e)
    (hb : ∀ a e, P a → c a = true → S a e → ∃ e', body e = .nx e' ∧ S (nx a) e' ∧ P (nx a) ∧ m (nx a) < m a) : ∀ (n : Nat) (a : α) (e : Ev), P a → S a e → m a < n → ∃ b e' i, whileL test body n e = .nx e' ∧ S b e' ∧ c b = false ∧ P b ∧ b = Nat.repeat nx i a
  | 0, a, e, _, _, h => absurd h (Nat.not_lt_zero _)
  | n + 1, a, e, hP, hS, h => by
    unfold whileL
    rw [ht a e hP hS]
    cases hc : c a with
    | false => exact ⟨a, e, 0, rfl, hS, hc, hP, rfl⟩
    | true =>
      obtain ⟨e', h1, h2, h3, h4⟩ := hb a e hP hc hS
      simp only [h1]
      obtain ⟨b, e2, i, k1, k2, k3, k4, k5⟩ := while_thru S c nx m P ht hb n (nx a) e' h3 h2 (by omega)
      refine ⟨b, e2, i + 1, k1, k2, k3, k4, ?_⟩
      rw [k5]
      have rp : ∀ (i : Nat) (a : α), Nat.repeat nx i (nx a) = Nat.repeat nx (i + 1) a := fun i => by
        induction i with
        | zero => intro a; rfl
        | succ i ih =>
          intro a
          show nx (Nat.repeat nx i (nx a)) = nx (Nat.repeat nx (i + 1) a)
          rw [ih]
      exact rp i a
theorem rngL_nat (n : Nat) : ∀ i : Nat, rngL (i : Int) n = (List.range' i n).map fun j : Nat => D.int (j : Int) := by
  induction n with
  | zero => intro i; rfl
  | succ n ih =>
    intro i
    have := ih (i + 1)
    simp only [rngL, List.range'_succ, List.map_cons]
    rw [← this]
    rfl
theorem ints_map : ∀ ns : List Int, ints? (ns.map D.int) = some ns
  | [] => rfl
  | n :: ns => by simp only [List.map_cons, ints?, ints_map ns, Option.map_some]
end EV
/-! The laws' own helpers, over any text that holds them. -/
namespace EV
open PySem
def fMixed : Fn := ⟨"_law_mixed", 2, ["number", "k", "step"], [], (.seq (.asg 2 (.bin .Mod (.bin .Add (.bin .Add (.bin .Mult (.var 0) (.lit (.int 48271))) (.bin .Mult (.var 1) (.lit (.int 69621)))) (.lit (.int 12345))) (.lit (.int 2147483647)))) (.seq (.ret (.bin .Mod (.bin .Add (.bin .Mult (.var 2) (.bin .Add (.bin .FloorDiv (.var 2) (.lit (.int 65536))) (.lit (.int 3)))) (.var 1)) (.lit (.int 2147483647)))) .skip))⟩
def fNumbers (m : Nat) : Fn := ⟨"_law_numbers", 1, ["script", "numbers", "cell", "rest", "k"], [], (.seq (.asg 1 (.lst .nil)) (.seq (.forS (.nm 2) (.var 0) (.seq (.cond (.cmp .GtE (.var 2) (.bin .Pow (.lit (.int 10)) (.lit (.int 18)))) (.seq (.asg 3 (.var 2)) (.seq (.forS (.nm 4) (.rng1 (.lit (.int 60))) (.seq (.cond (.cmp .Gt (.var 3) (.lit (.int 0))) (.seq (.expr (.mu .append 1 (.cons (.bin .Mod (.var 3) (.lit (.int 1000000))) .nil))) (.seq (.asg 3 (.bin .FloorDiv (.var 3) (.lit (.int 1000000)))) .skip)) .skip) .skip)) .skip)) (.seq (.expr (.mu .append 1 (.cons (.bin .Mod (.var 2) (.lit (.int 1000000))) .nil))) (.seq (.forS (.nm 4) (.rng1 (.lit (.int 5))) (.seq (.expr (.mu .append 1 (.cons (.bin .Mod (.call m (.cons (.call m (.cons (.bin .Mod (.var 2) (.lit (.int 2147483647))) (.cons (.var 4) .nil))) (.cons (.bin .Add (.var 4) (.lit (.int 7))) .nil))) (.lit (.int 1000000))) .nil))) .skip)) .skip))) .skip)) (.seq (.ret (.var 1)) .skip)))⟩
def fDraw (m : Nat) : Fn := ⟨"_law_draw", 1, ["draws", "at", "first"], [true], (.seq (.asg 1 (.ix (.var 0) (.lit (.int 1)))) (.seq (.asgI 0 (.lit (.int 1)) (.bin .Add (.var 1) (.lit (.int 1)))) (.seq (.cond (.cmp .Lt (.var 1) (.bi .len (.cons (.ix (.var 0) (.lit (.int 0))) .nil))) (.seq (.ret (.ix (.ix (.var 0) (.lit (.int 0))) (.var 1))) .skip) .skip) (.seq (.asg 2 (.bin .Add (.lit (.int 1)) (.var 1))) (.seq (.cond (.cmp .Gt (.bi .len (.cons (.ix (.var 0) (.lit (.int 0))) .nil)) (.lit (.int 0))) (.seq (.asg 2 (.bin .Add (.var 2) (.bin .Mult (.lit (.int 1009)) (.ix (.ix (.var 0) (.lit (.int 0))) (.lit (.int 0)))))) .skip) .skip) (.seq (.ret (.bin .Mod (.call m (.cons (.call m (.cons (.var 2) (.cons (.var 1) .nil))) (.cons (.lit (.int 5)) .nil))) (.lit (.int 1000000)))) .skip))))))⟩
def nD (n : Nat) : D := .int (n : Int)
def rowsD (rows : List Nat) : D := .lst (rows.map nD)
theorem and_nat (a b : Nat) : PySem.Builtin.bitAnd (a : Int) (b : Int) = ((a &&& b : Nat) : Int) := by
  unfold Builtin.bitAnd
  simp
theorem rng_map (n : Nat) (g : D → Option D) (h : Nat → D) (hg : ∀ j, j < n → g (.int ((j : Nat) : Int)) = some (h j)) : (rngL 0 n).filterMap g = (List.range n).map h := by
  have e := rngL_nat n 0
  rw [show ((0 : Nat) : Int) = 0 from rfl] at e
  rw [e, List.range_eq_range', List.filterMap_map, ← List.filterMap_eq_map]
  refine fm_congr fun j hj => ?_
  have : j < n := by simpa using hj
  exact hg j this
theorem rng_mem {n : Nat} {d : D} (h : d ∈ rngL 0 n) : ∃ j : Nat, j < n ∧ d = .int (j : Int) := by
  have e := rngL_nat n 0
  rw [show ((0 : Nat) : Int) = 0 from rfl] at e
  rw [e] at h
  obtain ⟨j, hj, rfl⟩ := List.mem_map.mp h
  exact ⟨j, by simpa using hj, rfl⟩
theorem at_nat {α : Type} {xs : List α} {j : Nat} (h : j < xs.length) : L2.atI xs (j : Int) = xs[j]? := by
  unfold L2.atI L2.ixN
  rw [if_pos (by omega), if_pos (by omega)]
  rfl
theorem at_row {rows : List Nat} {j : Nat} (h : j < rows.length) : L2.atI (rows.map nD) (j : Int) = some (.int (rows.getD j 0 : Nat)) := by
  rw [at_nat (by simpa using h), List.getElem?_map, List.getElem?_eq_getElem h]
  simp [nD, h]
theorem sum_ints (l : List Nat) : ints? (l.map nD) = some (l.map fun n : Nat => (n : Int)) := by
  have := ints_map (l.map fun n : Nat => (n : Int))
  rw [List.map_map] at this
  exact this
theorem sum_cast (l : List Nat) : (l.map fun n : Nat => (n : Int)).sum = ((l.sum : Nat) : Int) := by
  induction l with
  | nil => rfl
  | cons a l ih => simp [ih]
theorem at0 (a : D) (l : List D) : L2.atI (a :: l) 0 = some a := by unfold L2.atI L2.ixN; simp
theorem at1 (a b : D) (l : List D) : L2.atI (a :: b :: l) 1 = some b := by
  unfold L2.atI L2.ixN
  rw [if_pos (by decide), if_pos (by simp only [List.length_cons]; omega)]
  rfl
theorem xor_and (a b : Nat) : (a ^^^ b) + 2 * (a &&& b) = a + b := by
  induction a using Nat.strongRecOn generalizing b with
  | _ a ih =>
    by_cases ha : a = 0
    · subst ha
      simp
    · have h := ih (a / 2) (by omega) (b / 2)
      have x1 : (a ^^^ b) / 2 = a / 2 ^^^ b / 2 := Nat.xor_div_two
      have x2 : (a &&& b) / 2 = a / 2 &&& b / 2 := Nat.and_div_two
      have x3 : (a ^^^ b) % 2 = (a % 2 + b % 2) % 2 := by
        have := Nat.xor_mod_two_pow (a := a) (b := b) (n := 1)
        simp only [Nat.pow_one] at this
        rw [this]
        have h1 : a % 2 = 0 ∨ a % 2 = 1 := by omega
        have h2 : b % 2 = 0 ∨ b % 2 = 1 := by omega
        rcases h1 with h1 | h1 <;> rcases h2 with h2 | h2 <;> rw [h1, h2] <;> rfl
      have x4 : (a &&& b) % 2 = (a % 2) * (b % 2) := by
        have := Nat.and_mod_two_pow (a := a) (b := b) (n := 1)
        simp only [Nat.pow_one] at this
        rw [this]
        have h1 : a % 2 = 0 ∨ a % 2 = 1 := by omega
        have h2 : b % 2 = 0 ∨ b % 2 = 1 := by omega
        rcases h1 with h1 | h1 <;> rcases h2 with h2 | h2 <;> rw [h1, h2] <;> rfl
      rw [← x1, ← x2] at h
      have h1 : a % 2 = 0 ∨ a % 2 = 1 := by omega
      have h2 : b % 2 = 0 ∨ b % 2 = 1 := by omega
      rcases h1 with h1 | h1 <;> rcases h2 with h2 | h2 <;> rw [h1, h2] at x3 x4 <;> omega
theorem xor_nat (a b : Nat) : PySem.Builtin.bitXor (a : Int) (b : Int) = ((a ^^^ b : Nat) : Int) := by
  rw [PyProof.Rows.bitXor_and, and_nat]
  have := xor_and a b
  omega
theorem sum_d (l : List Nat) : biD .sum [.lst (l.map nD)] = some (nD l.sum, false) := by
  show (ints? (l.map nD)).map (fun ns => (D.int ns.sum, false)) = _
  rw [sum_ints, Option.map_some, sum_cast]
  rfl
/-- a comprehension whose items come to something with P -/
theorem comp_some {vs : List Nat} {tg : Tg} {test : Ev → R Bool} {elt : Ev → R (D × Bool)} (P : D → Prop) (J : Nat → Ev → Prop) : ∀ (ds acc : List D) (i : Nat) (e : Ev), acc.length + ds.length ≤ sizeLine → J i e →
    (∀ j d, ds[j]? = some d → ∀ e, J (i + j) e → ∃ e1 e2 y e3, tgD tg d (wipeE e vs) = some e1 ∧ test e1 = .ok true e2 ∧ elt e2 = .ok y e3 ∧ P y.1 ∧ J (i + j + 1) e3) →
    ∃ ys e', compL vs tg test elt ds acc e = .ok (acc ++ ys) (wipeE e' vs) ∧ ys.length = ds.length ∧ (∀ y ∈ ys, P y) ∧ J (i + ds.length) e'
  | [], acc, i, e, _, hJ, _ => ⟨[], e, by simp [compL], rfl, (fun y hy => nomatch hy), hJ⟩
  | d :: ds, acc, i, e, hl, hJ, st => by
    rw [List.length_cons] at hl
    obtain ⟨e1, e2, y, e3, h1, h2, h3, h4, h5⟩ := st 0 d rfl e hJ
    unfold compL
    rw [h1]
    simp only
    rw [h2]
    simp only [h3]
    obtain ⟨ys, e', k1, k2, k3, k4⟩ := comp_some P J ds (acc ++ [y.1]) (i + 1) e3 (by rw [List.length_append]; simp; omega) h5 fun j d hd e hj => by
      have := st (j + 1) d (by simpa using hd) e (by rw [show i + (j + 1) = i + 1 + j by omega]; exact hj)
      rw [show i + (j + 1) + 1 = i + 1 + j + 1 by omega] at this
      exact this
    refine ⟨y.1 :: ys, e', ?_, by simp [k2], fun z hz => ?_, by rw [List.length_cons, show i + (ds.length + 1) = i + 1 + ds.length by omega]; exact k4⟩
    · rw [if_pos (by simp; omega), k1]
      simp
    · rcases List.mem_cons.mp hz with rfl | hz
      · exact h4
      · exact k3 z hz
section
variable {G : Cfg} {m : Nat}
theorem mixed_ok (hm : G.fns[m]? = some fMixed) (k : Nat) (a b : Int) (h : 1 ≤ k) : ∃ v : Nat, v < 2147483647 ∧ (fnEval G k m [.sh (.int a), .sh (.int b)]).res = .ok (nD v) false := by
  obtain ⟨k, rfl⟩ : ∃ j, k = j + 1 := ⟨k - 1, by omega⟩
  rw [fn_at k [.sh (.int a), .sh (.int b)] [.sh (.int a), .sh (.int b), .no] hm rfl rfl]
  generalize hs : (a * 48271 + b * 69621 + 12345) % 2147483647 = s
  have s1 : 0 ≤ s := by omega
  have s2 : s < 2147483647 := by omega
  refine ⟨((s * (s / 65536 + 3) + b) % 2147483647).toNat, by omega, ?_⟩
  have e1 : cMul a 48271 = true := cMul_r (by decide)
  have e2 : cMul b 69621 = true := cMul_r (by decide)
  have e3 : cMul s (s / 65536 + 3) = true := cMul_l (by omega)
  have e4 : (((s * (s / 65536 + 3) + b) % 2147483647).toNat : Int) = (s * (s / 65536 + 3) + b) % 2147483647 := Int.toNat_of_nonneg (by omega)
  unfold nD
  rw [e4]
  rw [seq_nx (asg_nx (x := (.int s, false)) (e1 := [.sh (.int a), .sh (.int b), .no]) (by simp [e1, e2, hs, exR, evR, ofX, ofF, noR, R.out, R.bind, R.of, with1, with2, withs, Bor.res, Bor.frz, ress, frzs, bl2, dat, Sl.get?, Sl.frz, mkSl, D.mutb, D.flat, D.isNon, truD, binD, unD, augD, cmpD, eqD, scalD, ixD, isiD, Out.res, Res.put, mkArgs, lineOk, sizeLine_eq, ioAt]) rfl)]
  rw [seq_rt (ret_f (x := (.int ((s * (s / 65536 + 3) + b) % 2147483647), false)) (e1 := [.sh (.int a), .sh (.int b), .sh (.int s)]) (by intro i h; cases h) (by simp [e3, exR, evR, ofX, ofF, noR, R.out, R.bind, R.of, with1, with2, withs, Bor.res, Bor.frz, ress, frzs, bl2, dat, Sl.get?, Sl.frz, mkSl, D.mutb, D.flat, D.isNon, truD, binD, unD, augD, cmpD, eqD, scalD, ixD, isiD, Out.res, Res.put, mkArgs, lineOk, sizeLine_eq, ioAt]))]
  rfl
/-- a list of drawn numbers -/
def small (l : List Nat) : Prop := ∀ r ∈ l, r < 1000000
theorem small_app {l : List Nat} {r : Nat} (h : small l) (hr : r < 1000000) : small (l ++ [r]) := fun x hx => by
  rcases List.mem_append.mp hx with z | z
  · exact h x z
  · have : x = r := by simpa using z
    rw [this]
    exact hr
theorem app_ok {k : Nat} {a : SE} {c : D} {s2 s3 s4 : Sl} {l : List Nat} {r : Nat} (hl : l.length < 1000000) (h : (evR G (fnEval G k) a).b [.sh c, .ow (rowsD l), s2, s3, s4] = .ok (.dat (nD r)) [.sh c, .ow (rowsD l), s2, s3, s4]) :
    (exR G (fnEval G k) [] (.expr (.mu .append 1 (.cons a .nil)))).x [.sh c, .ow (rowsD l), s2, s3, s4] = .nx [.sh c, .ow (rowsD (l ++ [r])), s2, s3, s4] := by
  have h2 := cons_bs h (nil_bs (G := G) (call := fnEval G k))
  have hlen : (l.map nD).length < sizeLine := by rw [List.length_map, sizeLine_eq]; omega
  refine expr_nx (x := (.non, false)) ?_
  show (if muOk .append [.sh c, .ow (rowsD l), s2, s3, s4] 1 = true then ((evR G (fnEval G k) (.cons a .nil)).bs [.sh c, .ow (rowsD l), s2, s3, s4]).bind _ else .st) = _
  rw [if_pos (show muOk .append [.sh c, .ow (rowsD l), s2, s3, s4] 1 = true from rfl), h2]
  show (match (if decide ((l.map nD).length < sizeLine) = true then some (D.lst (l.map nD ++ [nD r]), D.non) else none) with
    | some (d', r') => R.ok (r', false) [.sh c, .ow d', s2, s3, s4]
    | none => R.st) = _
  rw [if_pos (decide_eq_true hlen)]
  show R.ok (D.non, false) [.sh c, .ow (.lst (l.map nD ++ [nD r])), s2, s3, s4] = _
  rw [show l.map nD ++ [nD r] = (l ++ [r]).map nD by simp]
  rfl
theorem pow18 : binD .Pow (.int 10) (.int 18) = some (.int (10 ^ 18), false) := rfl
theorem goM (hm : G.fns[m]? = some fMixed) (call : Nat → List Sl → FR) (b0 b1 : Bor) (e : Ev) : goCall G call m [b0, b1] e = (match mkArgs e [] [b0, b1] with | none => .st | some z => (call m z.1).res.put e z.2) := go_pure call [b0, b1] e hm rfl rfl
theorem numbers_ok {f : Nat} (hm : G.fns[m]? = some fMixed) (hf : G.fns[f]? = some (fNumbers m)) (k : Nat) (ns : List Int) (hn : ns.length ≤ 63) (h : 2 ≤ k) : ∃ l : List Nat, small l ∧ l.length ≤ 4000 ∧ (fnEval G k f [.sh (.scr ns)]).res = .ok (rowsD l) true := by
  obtain ⟨k, rfl⟩ : ∃ j, k = j + 1 := ⟨k - 1, by omega⟩
  rw [fn_at k [.sh (.scr ns)] [.sh (.scr ns), .no, .no, .no, .no] hf rfl rfl]
  obtain ⟨e', k1, k2⟩ := for_thru (tg := .nm 2) (body := (exR G (fnEval G k) [] (.seq (.cond (.cmp .GtE (.var 2) (.bin .Pow (.lit (.int 10)) (.lit (.int 18)))) (.seq (.asg 3 (.var 2)) (.seq (.forS (.nm 4) (.rng1 (.lit (.int 60))) (.seq (.cond (.cmp .Gt (.var 3) (.lit (.int 0))) (.seq (.expr (.mu .append 1 (.cons (.bin .Mod (.var 3) (.lit (.int 1000000))) .nil))) (.seq (.asg 3 (.bin .FloorDiv (.var 3) (.lit (.int 1000000)))) .skip)) .skip) .skip)) .skip)) (.seq (.expr (.mu .append 1 (.cons (.bin .Mod (.var 2) (.lit (.int 1000000))) .nil))) (.seq (.forS (.nm 4) (.rng1 (.lit (.int 5))) (.seq (.expr (.mu .append 1 (.cons (.bin .Mod (.call m (.cons (.call m (.cons (.bin .Mod (.var 2) (.lit (.int 2147483647))) (.cons (.var 4) .nil))) (.cons (.bin .Add (.var 4) (.lit (.int 7))) .nil))) (.lit (.int 1000000))) .nil))) .skip)) .skip))) .skip)).x)
    (fun i e => ∃ (l : List Nat) (s2 s3 s4 : Sl), small l ∧ l.length ≤ 60 * i ∧ e = [.sh (.scr ns), .ow (rowsD l), s2, s3, s4]) (ns.map .int) 0 [.sh (.scr ns), .ow (rowsD []), .no, .no, .no] ⟨[], .no, .no, .no, (fun r hr => nomatch hr), by simp, rfl⟩ fun j d e hj ⟨l, s2, s3, s4, hs, hll, hx⟩ => by
      subst hx
      rw [Nat.zero_add] at hll ⊢
      have hjl : j < ns.length := by
        have := (List.getElem?_eq_some_iff.mp hj).1
        simpa using this
      obtain ⟨c, rfl⟩ : ∃ c, d = .int c := by
        rw [List.getElem?_map] at hj
        obtain ⟨c, _, hc⟩ := Option.map_eq_some_iff.mp hj
        exact ⟨c, hc.symm⟩
      refine ⟨[.sh (.scr ns), .ow (rowsD l), .sh (.int c), s3, s4], ?_⟩
      by_cases hbig : (10 : Int) ^ 18 ≤ c
      · -- a great number
        obtain ⟨e2, q1, l2, rest, y4, q2, q3, q4⟩ := for_thru (tg := .nm 4) (body := (exR G (fnEval G k) [] (.seq (.cond (.cmp .Gt (.var 3) (.lit (.int 0))) (.seq (.expr (.mu .append 1 (.cons (.bin .Mod (.var 3) (.lit (.int 1000000))) .nil))) (.seq (.asg 3 (.bin .FloorDiv (.var 3) (.lit (.int 1000000)))) .skip)) .skip) .skip)).x)
          (fun i e => ∃ (l2 : List Nat) (rest : Int) (y4 : Sl), small l2 ∧ l2.length ≤ l.length + i ∧ e = [.sh (.scr ns), .ow (rowsD l2), .sh (.int c), .sh (.int rest), y4]) (rngL 0 60) 0 [.sh (.scr ns), .ow (rowsD l), .sh (.int c), .sh (.int c), s4] ⟨l, c, s4, hs, by simp, rfl⟩ fun i d e hz ⟨l2, rest, y4, g1, g2, g3⟩ => by
            subst g3
            rw [Nat.zero_add] at g2 ⊢
            have hi : i < 60 := by
              have := (List.getElem?_eq_some_iff.mp hz).1
              rwa [rng_len] at this
            by_cases hr : 0 < rest
            · refine ⟨[.sh (.scr ns), .ow (rowsD l2), .sh (.int c), .sh (.int rest), .sh d], [.sh (.scr ns), .ow (rowsD (l2 ++ [(rest % 1000000).toNat])), .sh (.int c), .sh (.int (rest / 1000000)), .sh d], rfl, .inl ?_, l2 ++ [(rest % 1000000).toNat], _, _, small_app g1 (by omega), by simp; omega, rfl⟩
              rw [seq_nx ((cond_tt (e1 := [.sh (.scr ns), .ow (rowsD l2), .sh (.int c), .sh (.int rest), .sh d]) (by simp [hr, exR, evR, ofX, ofF, noR, R.out, R.bind, R.of, with1, with2, withs, Bor.res, Bor.frz, ress, frzs, bl2, dat, Sl.get?, Sl.frz, mkSl, D.mutb, D.flat, D.isNon, truD, binD, unD, augD, cmpD, eqD, scalD, ixD, isiD, Out.res, Res.put, mkArgs, lineOk, sizeLine_eq, ioAt])).trans ((seq_nx (app_ok (r := (rest % 1000000).toNat) (by omega) (by
                have : ((rest % 1000000).toNat : Int) = rest % 1000000 := Int.toNat_of_nonneg (by omega)
                simp [nD, this, exR, evR, ofX, ofF, noR, R.out, R.bind, R.of, with1, with2, withs, Bor.res, Bor.frz, ress, frzs, bl2, dat, Sl.get?, Sl.frz, mkSl, D.mutb, D.flat, D.isNon, truD, binD, unD, augD, cmpD, eqD, scalD, ixD, isiD, Out.res, Res.put, mkArgs, lineOk, sizeLine_eq, ioAt]))).trans ((seq_nx (asg_nx (x := (.int (rest / 1000000), false)) (e1 := [.sh (.scr ns), .ow (rowsD (l2 ++ [(rest % 1000000).toNat])), .sh (.int c), .sh (.int rest), .sh d]) (by simp [exR, evR, ofX, ofF, noR, R.out, R.bind, R.of, with1, with2, withs, Bor.res, Bor.frz, ress, frzs, bl2, dat, Sl.get?, Sl.frz, mkSl, D.mutb, D.flat, D.isNon, truD, binD, unD, augD, cmpD, eqD, scalD, ixD, isiD, Out.res, Res.put, mkArgs, lineOk, sizeLine_eq, ioAt]) rfl)).trans skip_nx)))]
              rfl
            · refine ⟨[.sh (.scr ns), .ow (rowsD l2), .sh (.int c), .sh (.int rest), .sh d], [.sh (.scr ns), .ow (rowsD l2), .sh (.int c), .sh (.int rest), .sh d], rfl, .inl ?_, l2, rest, _, g1, by omega, rfl⟩
              rw [seq_nx ((cond_ff (e1 := [.sh (.scr ns), .ow (rowsD l2), .sh (.int c), .sh (.int rest), .sh d]) (by simp [hr, exR, evR, ofX, ofF, noR, R.out, R.bind, R.of, with1, with2, withs, Bor.res, Bor.frz, ress, frzs, bl2, dat, Sl.get?, Sl.frz, mkSl, D.mutb, D.flat, D.isNon, truD, binD, unD, augD, cmpD, eqD, scalD, ixD, isiD, Out.res, Res.put, mkArgs, lineOk, sizeLine_eq, ioAt])).trans skip_nx)]
              rfl
        subst q4
        rw [rng_len] at q3
        refine ⟨[.sh (.scr ns), .ow (rowsD l2), .sh (.int c), .sh (.int rest), y4], rfl, .inl ?_, l2, _, _, _, q2, by omega, rfl⟩
        rw [seq_nx ((cond_tt (e1 := [.sh (.scr ns), .ow (rowsD l), .sh (.int c), s3, s4]) (by simp [pow18, exR, evR, ofX, ofF, noR, R.out, R.bind, R.of, with1, with2, withs, Bor.res, Bor.frz, ress, frzs, bl2, dat, Sl.get?, Sl.frz, mkSl, D.mutb, D.flat, D.isNon, truD, unD, augD, cmpD, eqD, scalD, ixD, isiD, Out.res, Res.put, mkArgs, lineOk, sizeLine_eq, ioAt]; omega)).trans ((seq_nx (asg_nx (x := (.int c, false)) (e1 := [.sh (.scr ns), .ow (rowsD l), .sh (.int c), s3, s4]) rfl rfl)).trans ((seq_nx (for_nx (ds := rngL 0 60) (e1 := [.sh (.scr ns), .ow (rowsD l), .sh (.int c), .sh (.int c), s4]) rfl (by simp [show smallI 60 = true from rfl, exR, evR, ofX, ofF, noR, R.out, R.bind, R.of, with1, with2, withs, Bor.res, Bor.frz, ress, frzs, bl2, dat, Sl.get?, Sl.frz, mkSl, D.mutb, D.flat, D.isNon, truD, binD, unD, augD, cmpD, eqD, scalD, ixD, isiD, Out.res, Res.put, mkArgs, lineOk, sizeLine_eq, ioAt]) q1)).trans skip_nx)))]
        rfl
      · obtain ⟨e2, q1, l2, y4, q2, q3, q4⟩ := for_thru (tg := .nm 4) (body := (exR G (fnEval G k) [] (.seq (.expr (.mu .append 1 (.cons (.bin .Mod (.call m (.cons (.call m (.cons (.bin .Mod (.var 2) (.lit (.int 2147483647))) (.cons (.var 4) .nil))) (.cons (.bin .Add (.var 4) (.lit (.int 7))) .nil))) (.lit (.int 1000000))) .nil))) .skip)).x)
          (fun i e => ∃ (l2 : List Nat) (y4 : Sl), small l2 ∧ l2.length ≤ l.length + 1 + i ∧ e = [.sh (.scr ns), .ow (rowsD l2), .sh (.int c), s3, y4]) (rngL 0 5) 0 [.sh (.scr ns), .ow (rowsD (l ++ [(c % 1000000).toNat])), .sh (.int c), s3, s4] ⟨_, s4, small_app hs (by omega), by simp, rfl⟩ fun i d e hz ⟨l2, y4, g1, g2, g3⟩ => by
            subst g3
            rw [Nat.zero_add] at g2 ⊢
            have hi : i < 5 := by
              have := (List.getElem?_eq_some_iff.mp hz).1
              rwa [rng_len] at this
            rw [rng_at hi] at hz
            have hdd : d = .int (i : Int) := by simpa using hz.symm
            subst hdd
            obtain ⟨v1, _, w1⟩ := mixed_ok hm k (c % 2147483647) i (by omega)
            obtain ⟨v2, _, w2⟩ := mixed_ok hm k v1 (i + 7) (by omega)
            refine ⟨[.sh (.scr ns), .ow (rowsD l2), .sh (.int c), s3, .sh (.int i)], [.sh (.scr ns), .ow (rowsD (l2 ++ [v2 % 1000000])), .sh (.int c), s3, .sh (.int i)], rfl, .inl ?_, l2 ++ [v2 % 1000000], _, small_app g1 (by omega), by simp; omega, rfl⟩
            rw [seq_nx (app_ok (r := v2 % 1000000) (by omega) (by
              simp [nD, goM hm, w1, w2, exR, evR, ofX, ofF, noR, R.out, R.bind, R.of, with1, with2, withs, Bor.res, Bor.frz, ress, frzs, bl2, dat, Sl.get?, Sl.frz, mkSl, D.mutb, D.flat, D.isNon, truD, binD, unD, augD, cmpD, eqD, scalD, ixD, isiD, Out.res, Res.put, mkArgs, lineOk, sizeLine_eq, ioAt]))]
            rfl
        subst q4
        rw [rng_len] at q3
        refine ⟨[.sh (.scr ns), .ow (rowsD l2), .sh (.int c), s3, y4], rfl, .inl ?_, l2, _, _, _, q2, by omega, rfl⟩
        rw [seq_nx ((cond_ff (e1 := [.sh (.scr ns), .ow (rowsD l), .sh (.int c), s3, s4]) (by simp [pow18, exR, evR, ofX, ofF, noR, R.out, R.bind, R.of, with1, with2, withs, Bor.res, Bor.frz, ress, frzs, bl2, dat, Sl.get?, Sl.frz, mkSl, D.mutb, D.flat, D.isNon, truD, unD, augD, cmpD, eqD, scalD, ixD, isiD, Out.res, Res.put, mkArgs, lineOk, sizeLine_eq, ioAt]; omega)).trans ((seq_nx (app_ok (r := (c % 1000000).toNat) (by omega) (by
          have : ((c % 1000000).toNat : Int) = c % 1000000 := Int.toNat_of_nonneg (by omega)
          simp [nD, this, exR, evR, ofX, ofF, noR, R.out, R.bind, R.of, with1, with2, withs, Bor.res, Bor.frz, ress, frzs, bl2, dat, Sl.get?, Sl.frz, mkSl, D.mutb, D.flat, D.isNon, truD, binD, unD, augD, cmpD, eqD, scalD, ixD, isiD, Out.res, Res.put, mkArgs, lineOk, sizeLine_eq, ioAt]))).trans ((seq_nx (for_nx (ds := rngL 0 5) (e1 := [.sh (.scr ns), .ow (rowsD (l ++ [(c % 1000000).toNat])), .sh (.int c), s3, s4]) rfl (by simp [show smallI 5 = true from rfl, exR, evR, ofX, ofF, noR, R.out, R.bind, R.of, with1, with2, withs, Bor.res, Bor.frz, ress, frzs, bl2, dat, Sl.get?, Sl.frz, mkSl, D.mutb, D.flat, D.isNon, truD, binD, unD, augD, cmpD, eqD, scalD, ixD, isiD, Out.res, Res.put, mkArgs, lineOk, sizeLine_eq, ioAt]) q1)).trans skip_nx)))]
        rfl
  obtain ⟨l, s2, s3, s4, q1, q2, q3⟩ := k2
  subst q3
  refine ⟨l, q1, by simp at q2; omega, ?_⟩
  rw [seq_nx (asg_nx (x := (rowsD [], true)) (e1 := [.sh (.scr ns), .no, .no, .no, .no]) rfl rfl), seq_nx (for_nx (ds := ns.map .int) (e1 := [.sh (.scr ns), .ow (rowsD []), .no, .no, .no]) rfl rfl k1), seq_rt (ret_ow (d := rowsD l) rfl rfl)]
  rfl
def drD (l : List Nat) (at_ : Nat) : D := .lst [rowsD l, nD at_]
theorem draw_ok {f : Nat} (hm : G.fns[m]? = some fMixed) (hf : G.fns[f]? = some (fDraw m)) (k : Nat) (l : List Nat) (at_ : Nat) (hs : small l) (hl : l.length ≤ 4000) (ha : at_ < 1000000) (h : 2 ≤ k) : ∃ (v : Nat) (e : Ev), v < 1000000 ∧ fnEval G k f [.ow (drD l at_)] = .ok (nD v) false e ∧ e.getD 0 .no = .ow (drD l (at_ + 1)) := by
  obtain ⟨k, rfl⟩ : ∃ j, k = j + 1 := ⟨k - 1, by omega⟩
  rw [fn_step (fi := fDraw m) k _ hf rfl]
  show ∃ (v : Nat) (e : Ev), v < 1000000 ∧ ((exR G (fnEval G k) [true] (fDraw m).body).x [.ow (drD l at_), .no, .no]).fr = .ok (nD v) false e ∧ e.getD 0 .no = .ow (drD l (at_ + 1))
  have a0 := at0 (rowsD l) [nD at_]
  have a1 := at1 (rowsD l) (nD at_) []
  have a0' := at0 (rowsD l) [nD (at_ + 1)]
  -- the first two statements
  have s1 : (exR G (fnEval G k) [true] (.asg 1 (.ix (.var 0) (.lit (.int 1))))).x [.ow (drD l at_), .no, .no] = .nx [.ow (drD l at_), .sh (nD at_), .no] := by
    rw [asg_nx (x := (nD at_, false)) (e1 := [.ow (drD l at_), .no, .no]) (by simp [drD, at1, exR, evR, ofX, ofF, noR, R.out, R.bind, R.of, with1, with2, withs, Bor.res, Bor.frz, ress, frzs, bl2, dat, Sl.get?, Sl.frz, mkSl, D.mutb, D.flat, D.isNon, truD, binD, unD, augD, cmpD, eqD, scalD, ixD, isiD, Out.res, Res.put, mkArgs, lineOk, sizeLine_eq, ioAt]) rfl]
    rfl
  have s2 : (exR G (fnEval G k) [true] (.asgI 0 (.lit (.int 1)) (.bin .Add (.var 1) (.lit (.int 1))))).x [.ow (drD l at_), .sh (nD at_), .no] = .nx [.ow (drD l (at_ + 1)), .sh (nD at_), .no] := by
    simp [drD, nD, setD, L2.ixN, exR, evR, ofX, ofF, noR, R.out, R.bind, R.of, with1, with2, withs, Bor.res, Bor.frz, ress, frzs, bl2, dat, Sl.get?, Sl.frz, mkSl, D.mutb, D.flat, D.isNon, truD, binD, unD, augD, cmpD, eqD, scalD, ixD, isiD, Out.res, Res.put, mkArgs, lineOk, sizeLine_eq, ioAt]
  by_cases hb : at_ < l.length
  · have a2 := at_row hb
    have s3 : (exR G (fnEval G k) [true] (.cond (.cmp .Lt (.var 1) (.bi .len (.cons (.ix (.var 0) (.lit (.int 0))) .nil))) (.seq (.ret (.ix (.ix (.var 0) (.lit (.int 0))) (.var 1))) .skip) .skip)).x [.ow (drD l (at_ + 1)), .sh (nD at_), .no] = .rt (nD (l.getD at_ 0)) false [.ow (drD l (at_ + 1)), .sh (nD at_), .no] := by
      have hb' : (at_ : Int) < (l.length : Int) := by omega
      rw [cond_tt (e1 := [.ow (drD l (at_ + 1)), .sh (nD at_), .no]) (by simp [drD, at0, rowsD, nD, biD, hb, exR, evR, ofX, ofF, noR, R.out, R.bind, R.of, with1, with2, withs, Bor.res, Bor.frz, ress, frzs, bl2, dat, Sl.get?, Sl.frz, mkSl, D.mutb, D.flat, D.isNon, truD, binD, unD, augD, cmpD, eqD, scalD, ixD, isiD, Out.res, Res.put, mkArgs, lineOk, sizeLine_eq, ioAt])]
      rw [seq_rt (ret_f (x := (nD (l.getD at_ 0), false)) (e1 := [.ow (drD l (at_ + 1)), .sh (nD at_), .no]) (by intro i h; cases h) (by simp at a2; simp [drD, at0, rowsD, nD, a2, exR, evR, ofX, ofF, noR, R.out, R.bind, R.of, with1, with2, withs, Bor.res, Bor.frz, ress, frzs, bl2, dat, Sl.get?, Sl.frz, mkSl, D.mutb, D.flat, D.isNon, truD, binD, unD, augD, cmpD, eqD, scalD, ixD, isiD, Out.res, Res.put, mkArgs, lineOk, sizeLine_eq, ioAt]))]
    refine ⟨l.getD at_ 0, [.ow (drD l (at_ + 1)), .sh (nD at_), .no], ?_, ?_, rfl⟩
    · rw [List.getD_eq_getElem?_getD, List.getElem?_eq_getElem hb]
      exact hs _ (List.getElem_mem hb)
    · unfold fDraw
      rw [seq_nx s1, seq_nx s2, seq_rt s3]
      rfl
  · have s3 : (exR G (fnEval G k) [true] (.cond (.cmp .Lt (.var 1) (.bi .len (.cons (.ix (.var 0) (.lit (.int 0))) .nil))) (.seq (.ret (.ix (.ix (.var 0) (.lit (.int 0))) (.var 1))) .skip) .skip)).x [.ow (drD l (at_ + 1)), .sh (nD at_), .no] = .nx [.ow (drD l (at_ + 1)), .sh (nD at_), .no] := by
      rw [cond_ff (e1 := [.ow (drD l (at_ + 1)), .sh (nD at_), .no]) (by simp [drD, at0, rowsD, nD, biD, hb, exR, evR, ofX, ofF, noR, R.out, R.bind, R.of, with1, with2, withs, Bor.res, Bor.frz, ress, frzs, bl2, dat, Sl.get?, Sl.frz, mkSl, D.mutb, D.flat, D.isNon, truD, binD, unD, augD, cmpD, eqD, scalD, ixD, isiD, Out.res, Res.put, mkArgs, lineOk, sizeLine_eq, ioAt])]
      rfl
    have s4 : (exR G (fnEval G k) [true] (.asg 2 (.bin .Add (.lit (.int 1)) (.var 1)))).x [.ow (drD l (at_ + 1)), .sh (nD at_), .no] = .nx [.ow (drD l (at_ + 1)), .sh (nD at_), .sh (nD (1 + at_))] := by
      rw [asg_nx (x := (nD (1 + at_), false)) (e1 := [.ow (drD l (at_ + 1)), .sh (nD at_), .no]) (by simp [nD, exR, evR, ofX, ofF, noR, R.out, R.bind, R.of, with1, with2, withs, Bor.res, Bor.frz, ress, frzs, bl2, dat, Sl.get?, Sl.frz, mkSl, D.mutb, D.flat, D.isNon, truD, binD, unD, augD, cmpD, eqD, scalD, ixD, isiD, Out.res, Res.put, mkArgs, lineOk, sizeLine_eq, ioAt]) rfl]
      rfl
    have s5 : ∃ f : Int, (exR G (fnEval G k) [true] (.cond (.cmp .Gt (.bi .len (.cons (.ix (.var 0) (.lit (.int 0))) .nil)) (.lit (.int 0))) (.seq (.asg 2 (.bin .Add (.var 2) (.bin .Mult (.lit (.int 1009)) (.ix (.ix (.var 0) (.lit (.int 0))) (.lit (.int 0)))))) .skip) .skip)).x [.ow (drD l (at_ + 1)), .sh (nD at_), .sh (nD (1 + at_))] = .nx [.ow (drD l (at_ + 1)), .sh (nD at_), .sh (.int f)] := by
      by_cases hz : 0 < l.length
      · have a2 := at_row hz
        have hm : cMul 1009 ((l.getD 0 0 : Nat) : Int) = true := cMul_l (by decide)
        refine ⟨(1 + at_ : Nat) + 1009 * (l.getD 0 0 : Nat), ?_⟩
        rw [cond_tt (e1 := [.ow (drD l (at_ + 1)), .sh (nD at_), .sh (nD (1 + at_))]) (by simp [drD, at0, rowsD, nD, biD, hz, exR, evR, ofX, ofF, noR, R.out, R.bind, R.of, with1, with2, withs, Bor.res, Bor.frz, ress, frzs, bl2, dat, Sl.get?, Sl.frz, mkSl, D.mutb, D.flat, D.isNon, truD, binD, unD, augD, cmpD, eqD, scalD, ixD, isiD, Out.res, Res.put, mkArgs, lineOk, sizeLine_eq, ioAt])]
        rw [seq_nx (asg_nx (x := (.int ((1 + at_ : Nat) + 1009 * (l.getD 0 0 : Nat)), false)) (e1 := [.ow (drD l (at_ + 1)), .sh (nD at_), .sh (nD (1 + at_))]) (by simp at a2 hm; simp [drD, at0, rowsD, nD, a2, hm, exR, evR, ofX, ofF, noR, R.out, R.bind, R.of, with1, with2, withs, Bor.res, Bor.frz, ress, frzs, bl2, dat, Sl.get?, Sl.frz, mkSl, D.mutb, D.flat, D.isNon, truD, binD, unD, augD, cmpD, eqD, scalD, ixD, isiD, Out.res, Res.put, mkArgs, lineOk, sizeLine_eq, ioAt]) rfl)]
        rfl
      · refine ⟨(1 + at_ : Nat), ?_⟩
        rw [cond_ff (e1 := [.ow (drD l (at_ + 1)), .sh (nD at_), .sh (nD (1 + at_))]) (by simp [drD, at0, rowsD, nD, biD, hz, exR, evR, ofX, ofF, noR, R.out, R.bind, R.of, with1, with2, withs, Bor.res, Bor.frz, ress, frzs, bl2, dat, Sl.get?, Sl.frz, mkSl, D.mutb, D.flat, D.isNon, truD, binD, unD, augD, cmpD, eqD, scalD, ixD, isiD, Out.res, Res.put, mkArgs, lineOk, sizeLine_eq, ioAt])]
        rfl
    obtain ⟨f, s5⟩ := s5
    obtain ⟨v1, _, w1⟩ := mixed_ok hm k f at_ (by omega)
    obtain ⟨v2, _, w2⟩ := mixed_ok hm k v1 5 (by omega)
    refine ⟨v2 % 1000000, [.ow (drD l (at_ + 1)), .sh (nD at_), .sh (.int f)], by omega, ?_, rfl⟩
    unfold fDraw
    rw [seq_nx s1, seq_nx s2, seq_nx s3, seq_nx s4, seq_nx s5, seq_rt (ret_f (x := (nD (v2 % 1000000), false)) (e1 := [.ow (drD l (at_ + 1)), .sh (nD at_), .sh (.int f)]) (by intro i h; cases h) (by simp [nD] at w1 w2; simp [nD, goM hm, w1, w2, exR, evR, ofX, ofF, noR, R.out, R.bind, R.of, with1, with2, withs, Bor.res, Bor.frz, ress, frzs, bl2, dat, Sl.get?, Sl.frz, mkSl, D.mutb, D.flat, D.isNon, truD, binD, unD, augD, cmpD, eqD, scalD, ixD, isiD, Out.res, Res.put, mkArgs, lineOk, sizeLine_eq, ioAt]))]
    rfl
theorem draw_call {f : Nat} (hm : G.fns[m]? = some fMixed) (hf : G.fns[f]? = some (fDraw m)) (k : Nat) (i : Nat) (l : List Nat) (at_ : Nat) (hs : small l) (hl : l.length ≤ 4000) (ha : at_ < 1000000) (h : 2 ≤ k) (e : Ev) (hi : e.getD i .no = .ow (drD l at_)) :
    ∃ v : Nat, v < 1000000 ∧ (evR G (fnEval G k) (.call f (.cons (.var i) .nil))).f e = .ok (nD v, false) (e.set i (.ow (drD l (at_ + 1)))) := by
  obtain ⟨v, e2, hv, h1, h2⟩ := draw_ok hm hf k l at_ hs hl ha h
  refine ⟨v, hv, ?_⟩
  have hb : (evR G (fnEval G k) (.cons (.var i) .nil)).bs e = .ok [.slot i] e := cons_bs (by
    show (match e.getD i .no with
      | .no => R.st
      | .sh d => R.ok (Bor.dat d) e
      | .ow _ => R.ok (Bor.slot i) e) = _
    rw [hi]) nil_bs
  rw [call_f hb]
  show (match G.fns[f]? with
    | some fi => if fi.np = [Bor.slot i].length then doCall (fnEval G k) fi.io f [.slot i] e else .st
    | none => .st) = _
  rw [hf]
  show doCall (fnEval G k) [true] f [.slot i] e = _
  have hm : mkArgs e [true] [.slot i] = some ([.ow (drD l at_)], e.set i .no) := by
    simp only [mkArgs, hi, Option.map_some]
  unfold doCall
  rw [hm]
  simp only [h1]
  show (if (nD v).flat && !([true].any id) then _ else _) = _
  rw [if_neg (by simp)]
  show R.ok (nD v, false) ((e.set i .no).set i (e2.getD 0 .no)) = _
  rw [h2, List.set_set]
def bTwo : SS := (.seq (.asg 1 (.lit (.int 1))) (.seq (.forS (.nm 2) (.rng1 (.var 0)) (.seq (.asg 1 (.bin .Mult (.var 1) (.lit (.int 2)))) .skip)) (.seq (.ret (.var 1)) .skip)))
theorem two_ok {f : Nat} {nm : Str} {N : List Str} (hf : G.fns[f]? = some ⟨nm, 1, N, [], bTwo⟩) (hN : N.length = 3) (k : Nat) (n : Nat) (hn : n ≤ 60) (h : 1 ≤ k) : (fnEval G k f [.sh (.int n)]).res = .ok (.int (2 ^ n : Nat)) false := by
  obtain ⟨k, rfl⟩ : ∃ j, k = j + 1 := ⟨k - 1, by omega⟩
  rw [fn_at k [.sh (.int n)] [.sh (.int n), .no, .no] hf rfl (by rw [hN]; rfl)]
  obtain ⟨e', k1, x, k2⟩ := for_thru (tg := .nm 2) (body := (exR G (fnEval G k) [] (.seq (.asg 1 (.bin .Mult (.var 1) (.lit (.int 2)))) .skip)).x) (fun i e => ∃ x, e = [.sh (.int n), .sh (.int (2 ^ i : Nat)), x])
    (rngL 0 n) 0 [.sh (.int n), .sh (.int 1), .no] ⟨.no, rfl⟩ fun j d e hj ⟨x, hx⟩ => by
      subst hx
      refine ⟨[.sh (.int n), .sh (.int (2 ^ (0 + j) : Nat)), .sh d], [.sh (.int n), .sh (.int (2 ^ (0 + j + 1) : Nat)), .sh d], rfl, .inl ?_, .sh d, rfl⟩
      simp [cMul_r, Int.pow_succ, exR, evR, ofX, ofF, noR, R.out, R.bind, R.of, with1, with2, withs, Bor.res, Bor.frz, ress, frzs, bl2, dat, Sl.get?, Sl.frz, mkSl, D.mutb, D.flat, D.isNon, truD, binD, unD, augD, cmpD, eqD, scalD, ixD, isiD, Out.res, Res.put, mkArgs, lineOk, sizeLine_eq, ioAt]
  unfold bTwo
  rw [seq_nx (e1 := [.sh (.int n), .sh (.int 1), .no]) (by simp [exR, evR, ofX, ofF, noR, R.out, R.bind, R.of, with1, with2, withs, Bor.res, Bor.frz, ress, frzs, bl2, dat, Sl.get?, Sl.frz, mkSl, D.mutb, D.flat, D.isNon, truD, binD, unD, augD, cmpD, eqD, scalD, ixD, isiD, Out.res, Res.put, mkArgs, lineOk, sizeLine_eq, ioAt]), seq_nx (for_nx (ds := rngL 0 n) (e1 := [.sh (.int n), .sh (.int 1), .no]) rfl (by simp [smallI_nat (n := n) (by omega), exR, evR, ofX, ofF, noR, R.out, R.bind, R.of, with1, with2, withs, Bor.res, Bor.frz, ress, frzs, bl2, dat, Sl.get?, Sl.frz, mkSl, D.mutb, D.flat, D.isNon, truD, binD, unD, augD, cmpD, eqD, scalD, ixD, isiD, Out.res, Res.put, mkArgs, lineOk, sizeLine_eq, ioAt]) k1)]
  subst k2
  rw [rng_len]
  simp [exR, evR, ofX, ofF, noR, R.out, R.bind, R.of, with1, with2, withs, Bor.res, Bor.frz, ress, frzs, bl2, dat, Sl.get?, Sl.frz, mkSl, D.mutb, D.flat, D.isNon, truD, binD, unD, augD, cmpD, eqD, scalD, ixD, isiD, Out.res, Res.put, mkArgs, lineOk, sizeLine_eq, ioAt]
def bBit (t : Nat) : SS := (.seq (.ret (.bin .Mod (.bin .FloorDiv (.var 0) (.call t (.cons (.var 1) .nil))) (.lit (.int 2)))) .skip)
theorem goT {t : Nat} {nm2 : Str} {N2 : List Str} (ht : G.fns[t]? = some ⟨nm2, 1, N2, [], bTwo⟩) (call : Nat → List Sl → FR) (b0 : Bor) (e : Ev) : goCall G call t [b0] e = (match mkArgs e [] [b0] with | none => .st | some z => (call t z.1).res.put e z.2) := go_pure call [b0] e ht rfl rfl
theorem lbit_ok {f t : Nat} {nm nm2 : Str} {N N2 : List Str} (hf : G.fns[f]? = some ⟨nm, 2, N, [], bBit t⟩) (hN : N.length = 2) (ht : G.fns[t]? = some ⟨nm2, 1, N2, [], bTwo⟩) (hN2 : N2.length = 3) (k : Nat) (p j : Nat) (hj : j ≤ 20) (h : 2 ≤ k) : (fnEval G k f [.sh (nD p), .sh (nD j)]).res = .ok (nD (p / 2 ^ j % 2)) false := by
  obtain ⟨k, rfl⟩ : ∃ j, k = j + 1 := ⟨k - 1, by omega⟩
  rw [fn_at k [.sh (nD p), .sh (nD j)] [.sh (nD p), .sh (nD j)] hf rfl (by rw [hN]; rfl)]
  have t2 := two_ok ht hN2 k j (by omega) (by omega)
  have h1 : (0 : Int) < ((2 ^ j : Nat) : Int) := by
    have := Nat.pow_pos (n := j) (show 0 < 2 by decide)
    omega
  have h2 : (((2 ^ j : Nat) : Int)).natAbs ≤ 1073741823 := by
    have := Nat.pow_le_pow_right (n := 2) (by decide) hj
    rw [Int.natAbs_natCast]
    omega
  have h3 : Nat.ble (((2 ^ j : Nat) : Int)).natAbs 1073741823 = true := Nat.ble_eq_true_of_le h2
  have hb : binD .FloorDiv (.int p) (.int ((2 ^ j : Nat) : Int)) = some (.int ((p / 2 ^ j : Nat) : Int), false) := by
    show (if (decide (0 < ((2 ^ j : Nat) : Int)) && Nat.ble (((2 ^ j : Nat) : Int)).natAbs 1073741823) = true then some (D.int ((p : Int) / ((2 ^ j : Nat) : Int)), false) else none) = _
    rw [h3, decide_eq_true h1]
    simp
  have e : ((2 ^ j : Nat) : Int) = 2 ^ j := by simp
  rw [e] at hb t2
  have hb2 : binD .Mod (.int ((p / 2 ^ j : Nat) : Int)) (.int 2) = some (nD (p / 2 ^ j % 2), false) := by
    simp [binD, nD]
  simp [bBit, goT ht, t2, hb, nD, exR, evR, ofX, ofF, noR, R.out, R.bind, R.of, with1, with2, withs, Bor.res, Bor.frz, ress, frzs, bl2, dat, Sl.get?, Sl.frz, mkSl, D.mutb, D.flat, D.isNon, truD, unD, augD, cmpD, eqD, scalD, ixD, isiD, Out.res, Res.put, mkArgs, lineOk, sizeLine_eq, ioAt]
  simp [nD] at hb2
  rw [hb2]
end
end EV
/-! More helpers. -/
namespace EV
open PySem
section
variable {G : Cfg}
def bIsNum : SS := (.seq (.ret (.and (.isi (.var 0) .int) (.and (.not (.isi (.var 0) .bool)) (.cmp2 .LtE .LtE (.var 1) (.var 0) (.var 2))))) .skip)
def bCheckNum (q c : Nat) : SS := (.seq (.cond (.not (.call q (.cons (.var 0) (.cons (.var 1) (.cons (.var 2) .nil))))) (.seq (.raise c) .skip) .skip) .skip)
def bTwoTo : SS := (.seq (.ret (.bin .LShift (.lit (.int 1)) (.var 0))) .skip)
def bBitF : SS := (.seq (.ret (.bin .BitAnd (.bin .RShift (.var 0) (.var 1)) (.lit (.int 1)))) .skip)
def okV : D → Bool
  | .fn _ => false
  | .scr _ => false
  | _ => true
def isNum (v : D) (lo hi : Int) : Bool := match v with
  | .int i => decide (lo ≤ i) && decide (i ≤ hi)
  | _ => false
theorem isnum_ok {f : Nat} {nm : Str} {N : List Str} (hf : G.fns[f]? = some ⟨nm, 3, N, [], bIsNum⟩) (hN : N.length = 3) (k : Nat) (v : D) (lo hi : Int) (hv : okV v = true) (h : 1 ≤ k) : (fnEval G k f [.sh v, .sh (.int lo), .sh (.int hi)]).res = .ok (.bl (isNum v lo hi)) false := by
  obtain ⟨k, rfl⟩ : ∃ j, k = j + 1 := ⟨k - 1, by omega⟩
  rw [fn_at k [.sh v, .sh (.int lo), .sh (.int hi)] [.sh v, .sh (.int lo), .sh (.int hi)] hf rfl (by rw [hN]; rfl)]
  cases v <;> first
    | (cases hv; done)
    | (simp [bIsNum, isNum, exR, evR, ofX, ofF, noR, R.out, R.bind, R.of, with1, with2, withs, Bor.res, Bor.frz, ress, frzs, bl2, dat, Sl.get?, Sl.frz, mkSl, D.mutb, D.flat, D.isNon, truD, binD, unD, augD, cmpD, eqD, scalD, ixD, isiD, Out.res, Res.put, mkArgs, lineOk, sizeLine_eq, ioAt]; done)
    | (rename_i i; by_cases h1 : lo ≤ i <;> simp [bIsNum, isNum, h1, exR, evR, ofX, ofF, noR, R.out, R.bind, R.of, with1, with2, withs, Bor.res, Bor.frz, ress, frzs, bl2, dat, Sl.get?, Sl.frz, mkSl, D.mutb, D.flat, D.isNon, truD, binD, unD, augD, cmpD, eqD, scalD, ixD, isiD, Out.res, Res.put, mkArgs, lineOk, sizeLine_eq, ioAt])
theorem goP {f np : Nat} {nm : Str} {N : List Str} {body : SS} (hf : G.fns[f]? = some ⟨nm, np, N, [], body⟩) (call : Nat → List Sl → FR) (bs : List Bor) (e : Ev) (hl : np = bs.length) : goCall G call f bs e = (match mkArgs e [] bs with | none => .st | some z => (call f z.1).res.put e z.2) := go_pure call bs e hf rfl hl
theorem checknum_ok {f q c : Nat} {nm nm2 : Str} {N N2 : List Str} (hf : G.fns[f]? = some ⟨nm, 3, N, [], bCheckNum q c⟩) (hN : N.length = 3) (hq : G.fns[q]? = some ⟨nm2, 3, N2, [], bIsNum⟩) (hN2 : N2.length = 3) (k : Nat) (v : D) (lo hi : Int) (hv : okV v = true) (h : 2 ≤ k) : (fnEval G k f [.sh v, .sh (.int lo), .sh (.int hi)]).res = if isNum v lo hi = true then .ok .non false else .er c := by
  obtain ⟨k, rfl⟩ : ∃ j, k = j + 1 := ⟨k - 1, by omega⟩
  rw [fn_at k [.sh v, .sh (.int lo), .sh (.int hi)] [.sh v, .sh (.int lo), .sh (.int hi)] hf rfl (by rw [hN]; rfl)]
  have i := isnum_ok hq hN2 k v lo hi hv (by omega)
  have g := fun e b0 b1 b2 => goP hq (fnEval G k) [b0, b1, b2] e rfl
  cases hb : isNum v lo hi <;> simp [hb] at i <;> simp [bCheckNum, g, i, hb, exR, evR, ofX, ofF, noR, R.out, R.bind, R.of, with1, with2, withs, Bor.res, Bor.frz, ress, frzs, bl2, dat, Sl.get?, Sl.frz, mkSl, D.mutb, D.flat, D.isNon, truD, binD, unD, augD, cmpD, eqD, scalD, ixD, isiD, Out.res, Res.put, mkArgs, lineOk, sizeLine_eq, ioAt]
theorem twoto_ok {f : Nat} {nm : Str} {N : List Str} (hf : G.fns[f]? = some ⟨nm, 1, N, [], bTwoTo⟩) (hN : N.length = 1) (k : Nat) (n : Nat) (hn : n ≤ 1000000) (h : 1 ≤ k) : (fnEval G k f [.sh (.int n)]).res = .ok (.int ((2 ^ n : Nat) : Int)) false := by
  obtain ⟨k, rfl⟩ : ∃ j, k = j + 1 := ⟨k - 1, by omega⟩
  rw [fn_at k [.sh (.int n)] [.sh (.int n)] hf rfl (by rw [hN]; rfl)]
  have h1 : (n : Int) ≤ 1000000 := by omega
  simp [bTwoTo, cPow, hn, exR, evR, ofX, ofF, noR, R.out, R.bind, R.of, with1, with2, withs, Bor.res, Bor.frz, ress, frzs, bl2, dat, Sl.get?, Sl.frz, mkSl, D.mutb, D.flat, D.isNon, truD, binD, unD, augD, cmpD, eqD, scalD, ixD, isiD, Out.res, Res.put, mkArgs, lineOk, sizeLine_eq, ioAt]
theorem bitf_ok {f : Nat} {nm : Str} {N : List Str} (hf : G.fns[f]? = some ⟨nm, 2, N, [], bBitF⟩) (hN : N.length = 2) (k : Nat) (p j : Nat) (h : 1 ≤ k) : (fnEval G k f [.sh (.int p), .sh (.int j)]).res = .ok (.int ((p / 2 ^ j % 2 : Nat) : Int)) false := by
  obtain ⟨k, rfl⟩ : ∃ j, k = j + 1 := ⟨k - 1, by omega⟩
  rw [fn_at k [.sh (.int p), .sh (.int j)] [.sh (.int p), .sh (.int j)] hf rfl (by rw [hN]; rfl)]
  simp [bBitF, PyProof.Rows.bitAnd_m1, exR, evR, ofX, ofF, noR, R.out, R.bind, R.of, with1, with2, withs, Bor.res, Bor.frz, ress, frzs, bl2, dat, Sl.get?, Sl.frz, mkSl, D.mutb, D.flat, D.isNon, truD, binD, unD, augD, cmpD, eqD, scalD, ixD, isiD, Out.res, Res.put, mkArgs, lineOk, sizeLine_eq, ioAt]
end
end EV
/-! Equal by the law's own word. -/
namespace EV
open PySem
section
variable {G : Cfg}
def bEq1 (a : Nat) : SS := (.seq (.cond (.isi (.var 1) .list) (.seq (.cond (.or (.not (.isi (.var 0) .list)) (.cmp .NotEq (.bi .len (.cons (.var 0) .nil)) (.bi .len (.cons (.var 1) .nil)))) (.seq (.ret (.lit (.bl false))) .skip) .skip) (.seq (.ret (.call a (.cons (.var 0) (.cons (.var 1) .nil)))) .skip)) .skip) (.seq (.cond (.isi (.var 1) .tuple) (.seq (.cond (.or (.not (.isi (.var 0) .tuple)) (.cmp .NotEq (.bi .len (.cons (.var 0) .nil)) (.bi .len (.cons (.var 1) .nil)))) (.seq (.ret (.lit (.bl false))) .skip) .skip) (.seq (.ret (.call a (.cons (.var 0) (.cons (.var 1) .nil)))) .skip)) .skip) (.seq (.cond (.isi (.var 1) .bool) (.seq (.ret (.and (.isi (.var 0) .bool) (.cmp .Eq (.var 0) (.var 1)))) .skip) .skip) (.seq (.cond (.isi (.var 1) .int) (.seq (.ret (.and (.isi (.var 0) .int) (.and (.not (.isi (.var 0) .bool)) (.cmp .Eq (.var 0) (.var 1))))) .skip) .skip) (.seq (.cond (.isi (.var 1) .str) (.seq (.ret (.and (.isi (.var 0) .str) (.cmp .Eq (.var 0) (.var 1)))) .skip) .skip) (.seq (.ret (.cmp .Is (.var 0) (.lit .non))) .skip))))))
def bEq2 (a : Nat) : SS := (.seq (.cond (.isi (.var 1) .list) (.seq (.ret (.and (.isi (.var 0) .list) (.and (.cmp .Eq (.bi .len (.cons (.var 0) .nil)) (.bi .len (.cons (.var 1) .nil))) (.call a (.cons (.var 0) (.cons (.var 1) .nil)))))) .skip) .skip) (.seq (.cond (.isi (.var 1) .tuple) (.seq (.ret (.and (.isi (.var 0) .tuple) (.and (.cmp .Eq (.bi .len (.cons (.var 0) .nil)) (.bi .len (.cons (.var 1) .nil))) (.call a (.cons (.var 0) (.cons (.var 1) .nil)))))) .skip) .skip) (.seq (.cond (.isi (.var 1) .bool) (.seq (.ret (.and (.isi (.var 0) .bool) (.cmp .Eq (.var 0) (.var 1)))) .skip) .skip) (.seq (.cond (.isi (.var 1) .int) (.seq (.ret (.and (.isi (.var 0) .int) (.and (.not (.isi (.var 0) .bool)) (.cmp .Eq (.var 0) (.var 1))))) .skip) .skip) (.seq (.cond (.isi (.var 1) .str) (.seq (.ret (.and (.isi (.var 0) .str) (.cmp .Eq (.var 0) (.var 1)))) .skip) .skip) (.seq (.ret (.cmp .Is (.var 0) (.lit .non))) .skip))))))
def bAll (q : Nat) : SS := (.seq (.forS (.nm 2) (.rng1 (.bi .len (.cons (.var 1) .nil))) (.seq (.cond (.not (.call q (.cons (.ix (.var 0) (.var 2)) (.cons (.ix (.var 1) (.var 2)) .nil)))) (.seq (.ret (.lit (.bl false))) .skip) .skip) .skip)) (.seq (.ret (.lit (.bl true))) .skip))
theorem leq_int {q a : Nat} {bq : SS} (hb : bq = bEq1 a ∨ bq = bEq2 a) {nm nm2 : Str} {N N2 : List Str} (hq : G.fns[q]? = some ⟨nm, 2, N, [], bq⟩) (hN : N.length = 2) (k : Nat) (i : Int) (h : 1 ≤ k) : (fnEval G k q [.sh (.int i), .sh (.int i)]).res = .ok (.bl true) false := by
  obtain ⟨k, rfl⟩ : ∃ j, k = j + 1 := ⟨k - 1, by omega⟩
  rw [fn_at k [.sh (.int i), .sh (.int i)] [.sh (.int i), .sh (.int i)] hq rfl (by rw [hN]; rfl)]
  rcases hb with hb | hb <;> subst hb <;> simp [bEq1, bEq2, exR, evR, ofX, ofF, noR, R.out, R.bind, R.of, with1, with2, withs, Bor.res, Bor.frz, ress, frzs, bl2, dat, Sl.get?, Sl.frz, mkSl, D.mutb, D.flat, D.isNon, truD, binD, unD, augD, cmpD, eqD, scalD, ixD, isiD, Out.res, Res.put, mkArgs, lineOk, sizeLine_eq, ioAt]
theorem lall {q a : Nat} {nm nm2 : Str} {N N2 : List Str} {bq : SS} (hq : G.fns[q]? = some ⟨nm, 2, N, [], bq⟩) (ha : G.fns[a]? = some ⟨nm2, 2, N2, [], bAll q⟩) (hN2 : N2.length = 3) (k : Nat) (c ds : D) (l : List D) (hc : (c = .lst l) ∨ (c = .tup l)) (hl : l.length ≤ 1000000) (hd : ∀ d ∈ l, (fnEval G k q [.sh d, .sh d]).res = .ok (.bl true) false) : (fnEval G (k + 1) a [.sh c, .sh c]).res = .ok (.bl true) false := by
  rw [fn_at k [.sh c, .sh c] [.sh c, .sh c, .no] ha rfl (by rw [hN2]; rfl)]
  have hix : ∀ j : Nat, j < l.length → ixD c (.int j) = l[j]? := fun j hj => by
    rcases hc with rfl | rfl <;> exact at_nat hj
  have hlen : biD .len [c] = some (.int l.length, false) := by
    rcases hc with rfl | rfl <;> rfl
  obtain ⟨e', k1, x, k2⟩ := for_thru (tg := .nm 2) (body := (exR G (fnEval G k) [] (.seq (.cond (.not (.call q (.cons (.ix (.var 0) (.var 2)) (.cons (.ix (.var 1) (.var 2)) .nil)))) (.seq (.ret (.lit (.bl false))) .skip) .skip) .skip)).x)
    (fun i e => ∃ x, e = [.sh c, .sh c, x]) (rngL 0 l.length) 0 [.sh c, .sh c, .no] ⟨.no, rfl⟩ fun j d e hj ⟨x, hx⟩ => by
      subst hx
      have hlt : j < l.length := by
        have := (List.getElem?_eq_some_iff.mp hj).1
        rwa [rng_len] at this
      rw [rng_at hlt] at hj
      have hdd : d = .int (j : Int) := by simpa using hj.symm
      subst hdd
      have i1 := hix j hlt
      rw [List.getElem?_eq_getElem hlt] at i1
      have w := hd _ (List.getElem_mem hlt)
      have gq := fun e b0 b1 => goP hq (fnEval G k) [b0, b1] e rfl
      refine ⟨[.sh c, .sh c, .sh (.int j)], [.sh c, .sh c, .sh (.int j)], rfl, .inl ?_, _, rfl⟩
      have ht : (evR G (fnEval G k) (.not (.call q (.cons (.ix (.var 0) (.var 2)) (.cons (.ix (.var 1) (.var 2)) .nil))))).t [.sh c, .sh c, .sh (.int j)] = .ok false [.sh c, .sh c, .sh (.int j)] := by
        rcases hc with rfl | rfl <;> (simp only [ixD] at i1; simp [gq, i1, w, exR, evR, ofX, ofF, noR, R.out, R.bind, R.of, with1, with2, withs, Bor.res, Bor.frz, ress, frzs, bl2, dat, Sl.get?, Sl.frz, mkSl, D.mutb, D.flat, D.isNon, truD, binD, unD, augD, cmpD, eqD, scalD, ixD, isiD, Out.res, Res.put, mkArgs, lineOk, sizeLine_eq, ioAt])
      rw [seq_nx ((cond_ff ht).trans skip_nx)]
      rfl
  subst k2
  unfold bAll
  rw [seq_nx (for_nx (ds := rngL 0 l.length) (e1 := [.sh c, .sh c, .no]) rfl (by simp [hlen, smallI_nat (n := l.length) (by omega), exR, evR, ofX, ofF, noR, R.out, R.bind, R.of, with1, with2, withs, Bor.res, Bor.frz, ress, frzs, bl2, dat, Sl.get?, Sl.frz, mkSl, D.mutb, D.flat, D.isNon, truD, binD, unD, augD, cmpD, eqD, scalD, ixD, isiD, Out.res, Res.put, mkArgs, lineOk, sizeLine_eq, ioAt]) k1), seq_rt (ret_f (x := (.bl true, false)) (by intro i h; cases h) rfl)]
  rfl
theorem leq_seq {q a : Nat} {nm nm2 : Str} {N N2 : List Str} {bq : SS} (hb : bq = bEq1 a ∨ bq = bEq2 a) (hq : G.fns[q]? = some ⟨nm, 2, N, [], bq⟩) (hN : N.length = 2) (ha : G.fns[a]? = some ⟨nm2, 2, N2, [], bAll q⟩) (hN2 : N2.length = 3) (k : Nat) (c : D) (l : List D) (hc : (c = .lst l) ∨ (c = .tup l)) (hl : l.length ≤ 1000000) (hd : ∀ d ∈ l, (fnEval G k q [.sh d, .sh d]).res = .ok (.bl true) false) : (fnEval G (k + 2) q [.sh c, .sh c]).res = .ok (.bl true) false := by
  rw [fn_at (k + 1) [.sh c, .sh c] [.sh c, .sh c] hq rfl (by rw [hN]; rfl)]
  have w := lall hq ha hN2 k c .non l hc hl hd
  have ga := fun e b0 b1 => goP ha (fnEval G (k + 1)) [b0, b1] e rfl
  rcases hb with hb | hb <;> subst hb <;> rcases hc with rfl | rfl <;> simp [bEq1, bEq2, ga, w, biD, exR, evR, ofX, ofF, noR, R.out, R.bind, R.of, with1, with2, withs, Bor.res, Bor.frz, ress, frzs, bl2, dat, Sl.get?, Sl.frz, mkSl, D.mutb, D.flat, D.isNon, truD, binD, unD, augD, cmpD, eqD, scalD, ixD, isiD, Out.res, Res.put, mkArgs, lineOk, sizeLine_eq, ioAt]
end
end EV
/-! Lists compared with []. -/
namespace EV
open PySem
def scal : D → Bool
  | .int _ => true
  | .bl _ => true
  | .non => true
  | .str s => s.all fun c => decide (c < 0x110000)
  | _ => false
theorem scal_py : ∀ {xs : List D}, xs.all scal = true → ∃ ps, D.pys xs = some ps ∧ ps.length = xs.length ∧ PyData.canLayAll0 ps = true ∧ PyData.depthAll ps ≤ 1
  | [], _ => ⟨[], rfl, rfl, rfl, by simp [PyData.depthAll]⟩
  | x :: xs, h => by
    obtain ⟨h1, h2⟩ := and2 (show (scal x && xs.all scal) = true from h)
    obtain ⟨ps, q1, q2, q3, q4⟩ := scal_py h2
    cases x <;> try (cases h1)
    · exact ⟨.none :: ps, by simp [D.pys, D.py, q1], by simp [q2], by simp [PyData.canLayAll0, PyData.canLay0, q3], by simp [PyData.depthAll, PyData.depth]; omega⟩
    · rename_i b
      exact ⟨.bool b :: ps, by simp [D.pys, D.py, q1], by simp [q2], by simp [PyData.canLayAll0, PyData.canLay0, q3], by simp [PyData.depthAll, PyData.depth]; omega⟩
    · rename_i i
      exact ⟨.int i :: ps, by simp [D.pys, D.py, q1], by simp [q2], by simp [PyData.canLayAll0, PyData.canLay0, q3], by simp [PyData.depthAll, PyData.depth]; omega⟩
    · rename_i s
      refine ⟨.str ⟨s.toArray⟩ :: ps, by simp [D.pys, D.py, q1], by simp [q2], ?_, by simp [PyData.depthAll, PyData.depth]; omega⟩
      have hs : PyData.strOk ⟨s.toArray⟩ = true := by
        unfold PyData.strOk
        have h1' : (s.all fun c => decide (c < 0x110000)) = true := h1
        simpa using h1'
      simp [PyData.canLayAll0, PyData.canLay0, q3, hs]
theorem eq_nil {xs : List D} (h : xs.all scal = true) : eqD (.lst xs) (.lst []) = some xs.isEmpty := by
  obtain ⟨ps, q1, q2, q3, q4⟩ := scal_py h
  have s1 : SeqAt.shaped (.list ps) = true := Bool.and_eq_true_iff.mpr ⟨by simpa [PyData.canLay0] using q3, decide_eq_true (by simp [PyData.depth]; omega)⟩
  have s2 : SeqAt.shaped (.list []) = true := by decide
  unfold eqD
  simp only [scalD, D.py, q1, D.pys, Option.map_some, s1, s2, Bool.and_self, if_true]
  cases ps with
  | nil =>
    cases xs with
    | nil => rfl
    | cons _ _ => simp at q2
  | cons a ps =>
    cases xs with
    | nil => simp at q2
    | cons _ _ => rfl
theorem comp_nil {G : Cfg} {call : Nat → List Sl → FR} {el it c : SE} {tg : Tg} {own : List (Str × Nat)} {e e1 : Ev} {ys : List D} (h : (evR G call (.comp el tg it c own)).f e = .ok (.lst ys, true) e1) (hs : ys.all scal = true) :
    (evR G call (.cmp .Eq (.comp el tg it c own) (.lst .nil))).f e = .ok (.bl ys.isEmpty, false) e1 := by
  have g3 := comp_b h
  show with2 (evR G call (.comp el tg it c own)) (evR G call (.lst .nil)) e _ = _
  unfold with2
  rw [g3]
  show bl2 (eqD (.lst ys) (.lst [])) e1 = _
  rw [eq_nil hs] <;> rfl
theorem comp_nil_b {G : Cfg} {call : Nat → List Sl → FR} {el it c : SE} {tg : Tg} {own : List (Str × Nat)} {e e1 : Ev} {ys : List D} (h : (evR G call (.comp el tg it c own)).f e = .ok (.lst ys, true) e1) (hs : ys.all scal = true) :
    (evR G call (.cmp .Eq (.comp el tg it c own) (.lst .nil))).b e = .ok (.dat (.bl ys.isEmpty)) e1 := by
  show ((evR G call (.cmp .Eq (.comp el tg it c own) (.lst .nil))).f e).bind _ = _
  rw [comp_nil h hs]
  rfl
end EV
/-! Comprehensions whose items change nothing; ranges; walks. -/
namespace EV
open PySem
theorem rng_range (n : Nat) : rngL 0 n = (List.range n).map nD := by
  have e := rngL_nat n 0
  rw [show ((0 : Nat) : Int) = 0 from rfl] at e
  rw [e, List.range_eq_range']
  rfl
theorem set_getD (e : Ev) : ∀ v : Nat, e.set v (e.getD v .no) = e := by
  induction e with
  | nil => intro v; rfl
  | cons a e ih =>
    intro v
    cases v with
    | zero => rfl
    | succ v =>
      have := ih v
      simp only [List.set_cons_succ, List.getD_cons_succ]
      rw [this]
section
variable {G : Cfg} {call : Nat → List Sl → FR}
theorem comp_det {α : Type} {el it c : SE} {v : Nat} {s : Str} {e e1 : Ev} (l : List α) (h : α → D) (P : α → Bool) (g : α → D)
    (hit : (evR G call it).i e = .ok (l.map h) e1) (hl : l.length ≤ 1000000)
    (hc : ∀ a ∈ l, (evR G call c).t (e1.set v (.sh (h a))) = .ok (P a) (e1.set v (.sh (h a))))
    (he : ∀ a ∈ l, P a = true → ∃ fr, (evR G call el).f (e1.set v (.sh (h a))) = .ok (g a, fr) (e1.set v (.sh (h a)))) :
    (evR G call (.comp el (.nm v) it c [(s, v)])).f e = .ok (.lst ((l.filter P).map g), true) e1 := by
  have key : ∀ (l : List α) (acc : List D) (e' : Ev), acc.length + l.length ≤ sizeLine → (∃ x, e' = e1.set v x) →
      (∀ a ∈ l, (evR G call c).t (e1.set v (.sh (h a))) = .ok (P a) (e1.set v (.sh (h a)))) →
      (∀ a ∈ l, P a = true → ∃ fr, (evR G call el).f (e1.set v (.sh (h a))) = .ok (g a, fr) (e1.set v (.sh (h a)))) →
      ∃ x, compL [v] (.nm v) (evR G call c).t (evR G call el).f (l.map h) acc e' = .ok (acc ++ (l.filter P).map g) (e1.set v x) := by
    intro l
    induction l with
    | nil =>
      rintro acc _ _ ⟨x, rfl⟩ _ _
      refine ⟨.no, ?_⟩
      simp [compL, wipeE]
    | cons a l ih =>
      rintro acc _ hl ⟨x, rfl⟩ hc he
      rw [List.length_cons] at hl
      rw [List.map_cons]
      unfold compL
      have h1 : tgD (.nm v) (h a) (wipeE (e1.set v x) [v]) = some (e1.set v (.sh (h a))) := by simp [tgD, wipeE]
      rw [h1]
      simp only
      rw [hc a List.mem_cons_self]
      cases hp : P a with
      | false =>
        obtain ⟨y, k1⟩ := ih acc (e1.set v (.sh (h a))) (by omega) ⟨_, rfl⟩ (fun b hb => hc b (List.mem_cons_of_mem _ hb)) (fun b hb => he b (List.mem_cons_of_mem _ hb))
        exact ⟨y, by simp only [List.filter_cons, hp]; exact k1⟩
      | true =>
        obtain ⟨fr, h2⟩ := he a List.mem_cons_self hp
        simp only [h2]
        obtain ⟨y, k1⟩ := ih (acc ++ [g a]) (e1.set v (.sh (h a))) (by rw [List.length_append]; simp; omega) ⟨_, rfl⟩ (fun b hb => hc b (List.mem_cons_of_mem _ hb)) (fun b hb => he b (List.mem_cons_of_mem _ hb))
        refine ⟨y, ?_⟩
        rw [if_pos (by simp; omega), k1]
        simp [List.filter_cons, hp]
  obtain ⟨x, k1⟩ := key l [] e1 (by rw [sizeLine_eq]; simp; omega) ⟨e1.getD v .no, (set_getD e1 v).symm⟩ hc he
  rw [List.nil_append] at k1
  refine comp_ok hit k1 ?_
  show ((e1.set v x).set v (e1.getD v .no)) = e1
  rw [List.set_set]
  exact set_getD e1 v
/-- no condition -/
theorem comp_all {α : Type} {el it : SE} {v : Nat} {s : Str} {e e1 : Ev} (l : List α) (h : α → D) (g : α → D)
    (hit : (evR G call it).i e = .ok (l.map h) e1) (hl : l.length ≤ 1000000)
    (he : ∀ a ∈ l, ∃ fr, (evR G call el).f (e1.set v (.sh (h a))) = .ok (g a, fr) (e1.set v (.sh (h a)))) :
    (evR G call (.comp el (.nm v) it .nop [(s, v)])).f e = .ok (.lst (l.map g), true) e1 := by
  have := comp_det (G := G) (call := call) (el := el) (it := it) (c := .nop) (v := v) (s := s) l h (fun _ => true) g hit hl (fun a _ => rfl) (fun a ha _ => he a ha)
  rw [this]
  have hf : l.filter (fun _ => true) = l := by simp
  rw [hf]
theorem rng1_i {a : SE} {e e1 : Ev} {n : Nat} {fr : Bool} (h : (evR G call a).f e = .ok (nD n, fr) e1) (hn : n < 1000000000) : (evR G call (.rng1 a)).i e = .ok ((List.range n).map nD) e1 := by
  show (((evR G call a).f e).bind fun x e1 => match x.1 with
      | .int j => if smallI j then .ok (rngL 0 j.toNat) e1 else .st
      | _ => .st) = _
  rw [h]
  show (if smallI (n : Int) = true then R.ok (rngL 0 (n : Int).toNat) e1 else .st) = _
  rw [if_pos (smallI_nat hn), Int.toNat_natCast, rng_range]
theorem rng2_i {a b : SE} {e e1 e2 : Ev} {n m : Nat} {fr fr2 : Bool} (h : (evR G call a).f e = .ok (nD m, fr) e1) (h2 : (evR G call b).f e1 = .ok (nD n, fr2) e2) (hm : m < 1000000000) (hn : n < 1000000000) : (evR G call (.rng2 a b)).i e = .ok ((List.range (n - m)).map fun j => nD (m + j)) e2 := by
  show (((evR G call a).f e).bind fun x e1 => ((evR G call b).f e1).bind fun y e2 => match x.1, y.1 with
      | .int i, .int j => if smallI i && smallI j then R.ok (rngL i (j - i).toNat) e2 else .st
      | _, _ => .st) = _
  rw [h]
  show (((evR G call b).f e1).bind fun y e2 => match (nD m), y.1 with
      | .int i, .int j => if smallI i && smallI j then R.ok (rngL i (j - i).toNat) e2 else .st
      | _, _ => .st) = _
  rw [h2]
  show (if (smallI (m : Int) && smallI (n : Int)) = true then R.ok (rngL (m : Int) ((n : Int) - (m : Int)).toNat) e2 else .st) = _
  rw [smallI_nat hm, smallI_nat hn, Bool.and_self, if_pos rfl, rngL_nat, show ((n : Int) - (m : Int)).toNat = n - m by omega, List.range'_eq_map_range, List.map_map]
  rfl
theorem lst_i {a : SE} {e e1 : Ev} {l : List D} {fr : Bool} (h : (evR G call a).f e = .ok (.lst l, fr) e1) (ha : (evR G call a).i e = (((evR G call a).f e).bind fun x e1 => R.of (itemsD x.1) e1)) : (evR G call a).i e = .ok l e1 := by
  rw [ha, h]
  rfl
end
theorem strs_map (l : List Nat) : strs? (l.map fun c => D.str [c]) = some (l.map fun c => [c]) := by
  induction l with
  | nil => rfl
  | cons a l ih => simp [strs?, ih]
theorem join_codes (l : List Nat) (hl : l.length ≤ 1000000) : meD .join (.str []) [.lst (l.map fun c => .str [c])] = some (.str l, false) := by
  have h1 : ((l.map fun c => [c]).map List.length).sum = l.length := by
    rw [List.map_map]
    clear hl
    induction l with
    | nil => rfl
    | cons a l ih =>
      simp only [List.map_cons, List.sum_cons, Function.comp, List.length_cons, List.length_nil] at ih ⊢
      omega
  have hj : TL.joinL [] (l.map fun c => [c]) = l := by
    clear h1 hl
    induction l with
    | nil => rfl
    | cons a l ih => cases l with
      | nil => rfl
      | cons b l => simp_all [TL.joinL]
  show (match strs? (l.map fun c => D.str [c]) with
    | some zs => if lineOk ((zs.map List.length).sum + zs.length * ([] : List Nat).length) then some (D.str (TL.joinL [] zs), false) else none
    | none => none) = _
  rw [strs_map]
  show (if lineOk (((l.map fun c => [c]).map List.length).sum + (l.map fun c => [c]).length * 0) = true then some (D.str (TL.joinL [] (l.map fun c => [c])), false) else none) = _
  rw [h1, if_pos (show lineOk _ = true from decide_eq_true (by rw [sizeLine_eq]; omega)), hj]
end EV
/-! whole numbers from 0 on -/
namespace EV
open PySem
theorem nd0 : D.int 0 = nD 0 := rfl
theorem nd1 : D.int 1 = nD 1 := rfl
theorem ndl (n : Nat) : D.int (no_index (@OfNat.ofNat Int n _)) = nD (@OfNat.ofNat Nat n _) := rfl
theorem ndc (n : Nat) : D.int (n : Int) = nD n := rfl
theorem nAdd (a b : Nat) : binD .Add (nD a) (nD b) = some (nD (a + b), false) := rfl
theorem nSub {a b : Nat} (h : b ≤ a) : binD .Sub (nD a) (nD b) = some (nD (a - b), false) := by
  show some (D.int ((a : Int) - (b : Int)), false) = some (D.int ((a - b : Nat) : Int), false)
  rw [Int.ofNat_sub h]
theorem nMul {a b : Nat} (h : a ≤ 18446744073709551615 ∨ b ≤ 18446744073709551615) : binD .Mult (nD a) (nD b) = some (nD (a * b), false) := by
  show (if cMul (a : Int) (b : Int) = true then some (D.int ((a : Int) * (b : Int)), false) else none) = _
  rw [if_pos]
  · rfl
  · rcases h with h | h
    · exact cMul_l (by rw [Int.natAbs_natCast]; exact h)
    · exact cMul_r (by rw [Int.natAbs_natCast]; exact h)
theorem nDiv {a b : Nat} (h1 : 0 < b) (h2 : b ≤ 1073741823) : binD .FloorDiv (nD a) (nD b) = some (nD (a / b), false) := by
  show (if (decide (0 < (b : Int)) && Nat.ble ((b : Int)).natAbs 1073741823) = true then some (D.int ((a : Int) / (b : Int)), false) else none) = _
  rw [show decide (0 < (b : Int)) = true from decide_eq_true (by omega), show Nat.ble ((b : Int)).natAbs 1073741823 = true from Nat.ble_eq_true_of_le (by rw [Int.natAbs_natCast]; exact h2)]
  rfl
theorem nMod {a b : Nat} (h1 : 0 < b) : binD .Mod (nD a) (nD b) = some (nD (a % b), false) := by
  show (if decide (0 < (b : Int)) = true then some (D.int ((a : Int) % (b : Int)), false) else none) = _
  rw [show decide (0 < (b : Int)) = true from decide_eq_true (by omega)]
  rfl
theorem nShl {b : Nat} (a : Nat) (h1 : a ≤ 18446744073709551615) (h : b ≤ 1000000) : binD .LShift (nD a) (nD b) = some (nD (a * 2 ^ b), false) := by
  show (if cPow (a : Int) (b : Int) = true then some (D.int ((a : Int) * 2 ^ (b : Int).toNat), false) else none) = _
  rw [if_pos]
  · rw [Int.toNat_natCast]
    simp [nD]
  · unfold cPow
    rw [show decide (0 ≤ (b : Int)) = true from decide_eq_true (by omega), show Nat.ble ((b : Int)).natAbs 1000000 = true from Nat.ble_eq_true_of_le (by rw [Int.natAbs_natCast]; exact h), show Nat.ble ((a : Int)).natAbs 18446744073709551615 = true from Nat.ble_eq_true_of_le (by rw [Int.natAbs_natCast]; exact h1)]
    rfl
theorem nShr (a b : Nat) : binD .RShift (nD a) (nD b) = some (nD (a / 2 ^ b), false) := by
  show (if decide (0 ≤ (b : Int)) = true then some (D.int ((a : Int) / 2 ^ (b : Int).toNat), false) else none) = _
  rw [show decide (0 ≤ (b : Int)) = true from decide_eq_true (by omega), Int.toNat_natCast]
  simp [nD]
theorem nAnd (a b : Nat) : binD .BitAnd (nD a) (nD b) = some (nD (a &&& b), false) := by
  show some (D.int (Builtin.bitAnd (a : Int) (b : Int)), false) = _
  rw [and_nat]
  rfl
theorem nXor (a b : Nat) : binD .BitXor (nD a) (nD b) = some (nD (a ^^^ b), false) := by
  show some (D.int (Builtin.bitXor (a : Int) (b : Int)), false) = _
  rw [xor_nat]
  rfl
theorem nPow {a b : Nat} (h1 : a ≤ 18446744073709551615) (h : b ≤ 1000000) : binD .Pow (nD a) (nD b) = some (nD (a ^ b), false) := by
  show (if cPow (a : Int) (b : Int) = true then some (D.int ((a : Int) ^ (b : Int).toNat), false) else none) = _
  rw [if_pos]
  · rw [Int.toNat_natCast]
    simp [nD]
  · unfold cPow
    rw [show decide (0 ≤ (b : Int)) = true from decide_eq_true (by omega), show Nat.ble ((b : Int)).natAbs 1000000 = true from Nat.ble_eq_true_of_le (by rw [Int.natAbs_natCast]; exact h), show Nat.ble ((a : Int)).natAbs 18446744073709551615 = true from Nat.ble_eq_true_of_le (by rw [Int.natAbs_natCast]; exact h1)]
    rfl
theorem sAdd {a b : List Nat} (h : a.length + b.length ≤ 1000000) : binD .Add (.str a) (.str b) = some (.str (a ++ b), false) := by
  show (if lineOk (a.length + b.length) = true then some (D.str (a ++ b), false) else none) = _
  rw [if_pos (show lineOk _ = true from decide_eq_true (by rw [sizeLine_eq]; omega))]
theorem lAdd {a b : List D} (h : a.length + b.length ≤ 1000000) : binD .Add (.lst a) (.lst b) = some (.lst (a ++ b), true) := by
  show (if lineOk (a.length + b.length) = true then some (D.lst (a ++ b), true) else none) = _
  rw [if_pos (show lineOk _ = true from decide_eq_true (by rw [sizeLine_eq]; omega))]
theorem rAdd {a b : List Nat} (h : a.length + b.length ≤ 1000000) : binD .Add (rowsD a) (rowsD b) = some (rowsD (a ++ b), true) := by
  unfold rowsD
  rw [lAdd (by simpa using h), List.map_append]
theorem tAdd {a b : List D} (h : a.length + b.length ≤ 1000000) : binD .Add (.tup a) (.tup b) = some (.tup (a ++ b), false) := by
  show (if lineOk (a.length + b.length) = true then some (D.tup (a ++ b), false) else none) = _
  rw [if_pos (show lineOk _ = true from decide_eq_true (by rw [sizeLine_eq]; omega))]
theorem lMul {a : List D} {n : Nat} (h : a.length * n ≤ 1000000) (h2 : n ≤ 1000000) : binD .Mult (.lst a) (nD n) = some (.lst (List.replicate n a).flatten, true) := by
  simp only [nD, binD, Int.toNat_natCast]
  rw [if_pos]
  rw [Bool.and_eq_true]
  exact ⟨Nat.ble_eq_true_of_le (by omega), decide_eq_true (by rw [sizeLine_eq]; omega)⟩
theorem sMul {a : List Nat} {n : Nat} (h : a.length * n ≤ 1000000) (h2 : n ≤ 1000000) : binD .Mult (.str a) (nD n) = some (.str (List.replicate n a).flatten, false) := by
  simp only [nD, binD, Int.toNat_natCast]
  rw [if_pos]
  rw [Bool.and_eq_true]
  exact ⟨Nat.ble_eq_true_of_le (by omega), decide_eq_true (by rw [sizeLine_eq]; omega)⟩
theorem cEqN (a b : Nat) : cmpD .Eq (nD a) (nD b) = some (decide (a = b)) := by
  show some (decide ((a : Int) = (b : Int))) = _
  congr 1
  exact decide_eq_decide.mpr (by omega)
theorem cEqS (a b : List Nat) : cmpD .Eq (.str a) (.str b) = some (decide (a = b)) := rfl
theorem cEqB (a b : Bool) : cmpD .Eq (.bl a) (.bl b) = some (decide (a = b)) := rfl
theorem cNeN (a b : Nat) : cmpD .NotEq (nD a) (nD b) = some (!decide (a = b)) := by
  show (cmpD .Eq (nD a) (nD b)).map (!·) = _
  rw [cEqN]
  rfl
theorem cNeS (a b : List Nat) : cmpD .NotEq (.str a) (.str b) = some (!decide (a = b)) := rfl
theorem cNeB (a b : Bool) : cmpD .NotEq (.bl a) (.bl b) = some (!decide (a = b)) := rfl
theorem cLt (a b : Nat) : cmpD .Lt (nD a) (nD b) = some (decide (a < b)) := by
  show some (decide ((a : Int) < (b : Int))) = _
  congr 1
  exact decide_eq_decide.mpr (by omega)
theorem cLe (a b : Nat) : cmpD .LtE (nD a) (nD b) = some (decide (a ≤ b)) := by
  show some (decide ((a : Int) ≤ (b : Int))) = _
  congr 1
  exact decide_eq_decide.mpr (by omega)
theorem cGt (a b : Nat) : cmpD .Gt (nD a) (nD b) = some (decide (b < a)) := by
  show some (decide ((b : Int) < (a : Int))) = _
  congr 1
  exact decide_eq_decide.mpr (by omega)
theorem cGe (a b : Nat) : cmpD .GtE (nD a) (nD b) = some (decide (b ≤ a)) := by
  show some (decide ((b : Int) ≤ (a : Int))) = _
  congr 1
  exact decide_eq_decide.mpr (by omega)
theorem cIs (x : D) : cmpD .Is x .non = some x.isNon := rfl
theorem cIsN (x : D) : cmpD .IsNot x .non = some (!x.isNon) := rfl
theorem isNonN (a : Nat) : (nD a).isNon = false := rfl
theorem isNonS (a : List Nat) : (D.str a).isNon = false := rfl
theorem isNonL (a : List D) : (D.lst a).isNon = false := rfl
theorem isNonR (a : List Nat) : (rowsD a).isNon = false := rfl
theorem isNonT (a : List D) : (D.tup a).isNon = false := rfl
theorem isNonB (a : Bool) : (D.bl a).isNon = false := rfl
theorem isNon0 : (D.non).isNon = true := rfl
theorem inS (c : Nat) (z : List Nat) : cmpD .In (.str [c]) (.str z) = some (decide (c ∈ z)) := rfl
theorem ninS (c : Nat) (z : List Nat) : cmpD .NotIn (.str [c]) (.str z) = some (!decide (c ∈ z)) := rfl
theorem tN (a : Nat) : truD (nD a) = some (!decide (a = 0)) := by
  show some ((a : Int) != 0) = _
  congr 1
  cases a with
  | zero => rfl
  | succ a =>
    have : ((a + 1 : Nat) : Int) ≠ 0 := by omega
    rw [decide_eq_false (Nat.succ_ne_zero a)]
    exact bne_iff_ne.mpr this
theorem tB (a : Bool) : truD (.bl a) = some a := rfl
theorem tL (a : List D) : truD (.lst a) = some (!a.isEmpty) := rfl
theorem tT (a : List D) : truD (.tup a) = some (!a.isEmpty) := rfl
theorem tR (a : List Nat) : truD (rowsD a) = some (!a.isEmpty) := by
  show some (!(a.map nD).isEmpty) = _
  rw [List.isEmpty_map]
theorem t0 : truD .non = some false := rfl
theorem bLenL (a : List D) : biD .len [.lst a] = some (nD a.length, false) := rfl
theorem bLenT (a : List D) : biD .len [.tup a] = some (nD a.length, false) := rfl
theorem bLenR (a : List Nat) : biD .len [rowsD a] = some (nD a.length, false) := by
  show some (nD (a.map nD).length, false) = _
  rw [List.length_map]
theorem bLenS {a : List Nat} (h : a.length ≤ 1000000) : biD .len [.str a] = some (nD a.length, false) := by
  show (if lineOk a.length = true then some (D.int a.length, false) else none) = _
  rw [if_pos (show lineOk _ = true from decide_eq_true (by rw [sizeLine_eq]; omega))]
  rfl
theorem bIntN (a : Nat) : biD .intF [nD a] = some (nD a, false) := rfl
theorem bMin (a b : Nat) : biD .min2 [nD a, nD b] = some (nD (min a b), false) := by
  show some (D.int (if (b : Int) < (a : Int) then (b : Int) else (a : Int)), false) = some (D.int ((min a b : Nat) : Int), false)
  congr 3
  split <;> omega
theorem bMax (a b : Nat) : biD .max2 [nD a, nD b] = some (nD (max a b), false) := by
  show some (D.int (if (b : Int) > (a : Int) then (b : Int) else (a : Int)), false) = some (D.int ((max a b : Nat) : Int), false)
  congr 3
  split <;> omega
theorem bSum (l : List Nat) : biD .sum [rowsD l] = some (nD l.sum, false) := sum_d l
theorem bLstL (a : List D) : biD .listF [.lst a] = some (.lst a, true) := rfl
theorem bLstT (a : List D) : biD .listF [.tup a] = some (.lst a, true) := rfl
theorem bTupL (a : List D) : biD .tupleF [.lst a] = some (.tup a, false) := rfl
theorem bTupT (a : List D) : biD .tupleF [.tup a] = some (.tup a, false) := rfl
theorem ixL {l : List D} {j : Nat} (h : j < l.length) : ixD (.lst l) (nD j) = some (l.getD j .non) := by
  show L2.atI l (j : Int) = _
  rw [at_nat h, List.getD_eq_getElem?_getD, List.getElem?_eq_getElem h]
  rfl
theorem ixT {l : List D} {j : Nat} (h : j < l.length) : ixD (.tup l) (nD j) = some (l.getD j .non) := ixL (l := l) h
theorem ixR {l : List Nat} {j : Nat} (h : j < l.length) : ixD (rowsD l) (nD j) = some (nD (l.getD j 0)) := at_row h
theorem ixM {α : Type} {l : List α} {f : α → D} {j : Nat} (x : α) (h : j < l.length) : ixD (.lst (l.map f)) (nD j) = some (f (l.getD j x)) := by
  rw [ixL (by simpa using h), List.getD_eq_getElem?_getD, List.getD_eq_getElem?_getD, List.getElem?_map, List.getElem?_eq_getElem h]
  rfl
theorem ixS {s : List Nat} {j : Nat} (h : j < s.length) (hl : s.length ≤ 1000000) : ixD (.str s) (nD j) = some (.str [s.getD j 0]) := by
  show (if lineOk s.length = true then (L2.atI s (j : Int)).map fun c => D.str [c] else none) = _
  rw [if_pos (show lineOk s.length = true from decide_eq_true (by rw [sizeLine_eq]; omega)), at_nat h, List.getD_eq_getElem?_getD, List.getElem?_eq_getElem h]
  rfl
theorem isiN (a : Nat) (t : Ty) : isiD (nD a) t = some (decide (t = .int)) := by cases t <;> rfl
theorem isiR (a : List Nat) (t : Ty) : isiD (rowsD a) t = some (decide (t = .list)) := by cases t <;> rfl
theorem flatN (a : Nat) : (nD a).flat = true := rfl
theorem flatR (a : List Nat) : (rowsD a).flat = false := rfl
theorem mutN (a : Nat) : (nD a).mutb = false := rfl
theorem mutR (a : List Nat) : (rowsD a).mutb = true := rfl
theorem flat0 : (D.non).flat = true := rfl
theorem flatB (a : Bool) : (D.bl a).flat = true := rfl
theorem flatI (a : Int) : (D.int a).flat = true := rfl
theorem flatS (a : List Nat) : (D.str a).flat = true := rfl
theorem flatF (a : Nat) : (D.fn a).flat = true := rfl
theorem flatL (a : List D) : (D.lst a).flat = false := rfl
theorem flatT (a : List D) : (D.tup a).flat = false := rfl
theorem flatD (a b : List D) : (D.dct a b).flat = false := rfl
theorem mut0 : (D.non).mutb = false := rfl
theorem mutB (a : Bool) : (D.bl a).mutb = false := rfl
theorem mutI (a : Int) : (D.int a).mutb = false := rfl
theorem mutS (a : List Nat) : (D.str a).mutb = false := rfl
theorem mutF (a : Nat) : (D.fn a).mutb = false := rfl
theorem mutL (a : List D) : (D.lst a).mutb = true := rfl
theorem mutT (a : List D) : (D.tup a).mutb = false := rfl
theorem mutD (a b : List D) : (D.dct a b).mutb = true := rfl
theorem isi0 (t : Ty) : isiD .non t = some false := rfl
theorem isiB (a : Bool) (t : Ty) : isiD (.bl a) t = some (decide (t = .bool) || decide (t = .int)) := by cases t <;> rfl
theorem isiI (a : Int) (t : Ty) : isiD (.int a) t = some (decide (t = .int)) := by cases t <;> rfl
theorem isiS (a : List Nat) (t : Ty) : isiD (.str a) t = some (decide (t = .str)) := by cases t <;> rfl
theorem isiL (a : List D) (t : Ty) : isiD (.lst a) t = some (decide (t = .list)) := by cases t <;> rfl
theorem isiT (a : List D) (t : Ty) : isiD (.tup a) t = some (decide (t = .tuple)) := by cases t <;> rfl
theorem isiDc (a b : List D) (t : Ty) : isiD (.dct a b) t = some (decide (t = .dict)) := by cases t <;> rfl
theorem itR (a : List Nat) : itemsD (rowsD a) = some (a.map nD) := rfl
theorem itL (a : List D) : itemsD (.lst a) = some a := rfl
theorem itT (a : List D) : itemsD (.tup a) = some a := rfl
theorem itS (a : List Nat) : itemsD (.str a) = some (a.map fun c => .str [c]) := rfl
theorem cNilR (a : List Nat) : cmpD .Eq (rowsD a) (.lst []) = some a.isEmpty := by
  show eqD (.lst (a.map nD)) (.lst []) = _
  rw [eq_nil (by rw [List.all_map, List.all_eq_true]; exact fun _ _ => rfl), List.isEmpty_map]
theorem cNilN (a : List Nat) : cmpD .NotEq (rowsD a) (.lst []) = some (!a.isEmpty) := by
  show (cmpD .Eq (rowsD a) (.lst [])).map (!·) = _
  rw [cNilR]
  rfl
theorem cNilL {a : List D} (h : a.all scal = true) : cmpD .Eq (.lst a) (.lst []) = some a.isEmpty := eq_nil h
theorem cNilM {a : List D} (h : a.all scal = true) : cmpD .NotEq (.lst a) (.lst []) = some (!a.isEmpty) := by
  show (cmpD .Eq (.lst a) (.lst [])).map (!·) = _
  rw [cNilL h]
  rfl
theorem meTyJ (s : List Nat) : meTy .join (.str s) = true := rfl
theorem join_map {α : Type} (l : List α) (g : α → Nat) (hl : l.length ≤ 1000000) : meD .join (.str []) [.lst (l.map fun a => .str [g a])] = some (.str (l.map g), false) := by
  have := join_codes (l.map g) (by simpa using hl)
  rw [List.map_map] at this
  exact this
theorem cut_to {α : Type} {xs : List α} {j : Nat} (h : j ≤ xs.length) : cutD xs none (some (j : Int)) = xs.take j := by
  unfold cutD
  have e1 : HT.sIx xs.length xs.length (some (j : Int)) = j := by
    rw [HT.sIx_nat]
    omega
  have e2 : HT.sIx xs.length 0 none = 0 := rfl
  rw [e1, e2]
  simp
theorem cut_from {α : Type} {xs : List α} {j : Nat} (h : j ≤ xs.length) : cutD xs (some (j : Int)) none = xs.drop j := by
  unfold cutD
  have e1 : HT.sIx xs.length 0 (some (j : Int)) = j := by
    rw [HT.sIx_nat]
    omega
  have e2 : HT.sIx xs.length xs.length none = xs.length := rfl
  rw [e1, e2]
  exact List.take_of_length_le (by simp)
theorem cut_mid {α : Type} {xs : List α} {i j : Nat} (h : i ≤ xs.length) (h2 : j ≤ xs.length) : cutD xs (some (i : Int)) (some (j : Int)) = (xs.drop i).take (j - i) := by
  unfold cutD
  have e1 : HT.sIx xs.length 0 (some (i : Int)) = i := by
    rw [HT.sIx_nat]
    omega
  have e2 : HT.sIx xs.length xs.length (some (j : Int)) = j := by
    rw [HT.sIx_nat]
    omega
  rw [e1, e2]
section
variable {G : Cfg} {call : Nat → List Sl → FR}
theorem sl_to {a h : SE} {e e1 e2 : Ev} {d : D} {j : Nat} {fr : Bool} (ha : (evR G call a).b e = .ok (.dat d) e1) (hh : (evR G call h).f e1 = .ok (nD j, fr) e2) (ho : (evR G call h).o e1 = (((evR G call h).f e1).bind fun x e1 => match x.1 with
    | .int i => .ok (some i) e1
    | _ => .st)) : (evR G call (.sl a .nop h)).f e = R.of (slD d none (some (j : Int))) e2 := by
  show (((evR G call a).b e).bind fun x e1 => ((evR G call .nop).o e1).bind fun l e2 => ((evR G call h).o e2).bind fun h e3 => match x.res e3 with
    | some d => R.of (slD d l h) e3
    | none => .st) = _
  rw [ha]
  show (((evR G call h).o e1).bind fun h e3 => match (Bor.dat d).res e3 with
    | some d => R.of (slD d none h) e3
    | none => .st) = _
  rw [ho, hh]
  rfl
theorem sl_from {a l : SE} {e e1 e2 : Ev} {d : D} {j : Nat} {fr : Bool} (ha : (evR G call a).b e = .ok (.dat d) e1) (hl : (evR G call l).f e1 = .ok (nD j, fr) e2) (ho : (evR G call l).o e1 = (((evR G call l).f e1).bind fun x e1 => match x.1 with
    | .int i => .ok (some i) e1
    | _ => .st)) : (evR G call (.sl a l .nop)).f e = R.of (slD d (some (j : Int)) none) e2 := by
  show (((evR G call a).b e).bind fun x e1 => ((evR G call l).o e1).bind fun l e2 => ((evR G call .nop).o e2).bind fun h e3 => match x.res e3 with
    | some d => R.of (slD d l h) e3
    | none => .st) = _
  rw [ha]
  show (((evR G call l).o e1).bind fun l e2 => ((evR G call .nop).o e2).bind fun h e3 => match (Bor.dat d).res e3 with
    | some d => R.of (slD d l h) e3
    | none => .st) = _
  rw [ho, hl]
  rfl
end
end EV
/-! Steps through a body; the law's own equality of anything. -/
namespace EV
open PySem
def Ret (o : Out) : Prop := ∃ fr e, o.fr = .ok (.bl true) fr e
def Is (r : Res) (o : Out) : Prop := o.res = r
section
variable {G : Cfg} {call : Nat → List Sl → FR} {io : List Bool} {a c it : SE} {s r : SS} {i : Nat} {e e1 e2 : Ev} {x : D × Bool} (P : Out → Prop)
theorem go_nx (h : (exR G call io s).x e = .nx e1) (k : P ((exR G call io r).x e1)) : P ((exR G call io (.seq s r)).x e) := by
  rw [seq_nx h]
  exact k
theorem go_asg (h : (evR G call a).f e = .ok x e1) (hi : ioAt io i = false) (k : P ((exR G call io r).x (e1.set i (mkSl x.1 x.2)))) : P ((exR G call io (.seq (.asg i a) r)).x e) := go_nx P (asg_nx h hi) k
theorem go_expr (h : (evR G call a).f e = .ok x e1) (k : P ((exR G call io r).x e1)) : P ((exR G call io (.seq (.expr a) r)).x e) := go_nx P (expr_nx h) k
theorem go_expr_er {n : Nat} (h : (evR G call a).f e = .er n e1) (k : P (.er n e1)) : P ((exR G call io (.seq (.expr a) r)).x e) := by
  rw [seq_er (expr_er h)]
  exact k
theorem go_asgT {is : List Nat} (h : (evR G call a).f e = .ok x e1) (hi : is.all (fun i => !ioAt io i) = true) (ht : tgD (.tp is) x.1 e1 = some e2) (k : P ((exR G call io r).x e2)) : P ((exR G call io (.seq (.asgT is a) r)).x e) := by
  refine go_nx P ?_ k
  show (if is.all (fun i => !ioAt io i) = true then ((evR G call a).f e).out fun x e1 => match tgD (.tp is) x.1 e1 with
      | some e2 => Out.nx e2
      | none => .st
    else .st) = _
  rw [if_pos hi, h]
  show (match tgD (.tp is) x.1 e1 with
      | some e2 => Out.nx e2
      | none => .st) = _
  rw [ht]
theorem go_ff (h : (evR G call c).t e = .ok false e1) (k : P ((exR G call io r).x e1)) : P ((exR G call io (.seq (.cond c s .skip) r)).x e) := go_nx P ((cond_ff h).trans skip_nx) k
theorem go_tt {b : SS} (h : (evR G call c).t e = .ok true e1) (hs : (exR G call io s).x e1 = .nx e2) (k : P ((exR G call io r).x e2)) : P ((exR G call io (.seq (.cond c s b) r)).x e) := go_nx P ((cond_tt h).trans hs) k
theorem go_tt_rt {b : SS} {d : D} {fr : Bool} (h : (evR G call c).t e = .ok true e1) (hs : (exR G call io s).x e1 = .rt d fr e2) (k : P (.rt d fr e2)) : P ((exR G call io (.seq (.cond c s b) r)).x e) := by
  rw [seq_rt ((cond_tt h).trans hs)]
  exact k
theorem go_tt_er {b : SS} {n : Nat} (h : (evR G call c).t e = .ok true e1) (hs : (exR G call io s).x e1 = .er n e2) (k : P (.er n e2)) : P ((exR G call io (.seq (.cond c s b) r)).x e) := by
  rw [seq_er ((cond_tt h).trans hs)]
  exact k
theorem go_ret (hv : ∀ i, a ≠ .var i) (h : (evR G call a).f e = .ok x e1) (k : P (.rt x.1 x.2 e1)) : P ((exR G call io (.seq (.ret a) r)).x e) := by
  rw [seq_rt (ret_f hv h)]
  exact k
theorem go_for {tg : Tg} {b : SS} {ds : List D} (hio : tgOk io tg = true) (h : (evR G call it).i e = .ok ds e1) (h2 : forL tg (exR G call io b).x ds e1 = .nx e2) (k : P ((exR G call io r).x e2)) : P ((exR G call io (.seq (.forS tg it b) r)).x e) := go_nx P (for_nx hio h h2) k
end
theorem callv_f {G : Cfg} {call : Nat → List Sl → FR} {i f : Nat} {fi : Fn} {xs : SE} {e e1 : Ev} {bs : List Bor} (h : e.getD i .no = .sh (.fn f)) (hf : G.fns[f]? = some fi) (hb : (evR G call xs).bs e = .ok bs e1) : (evR G call (.callv i xs)).f e = goCall G call f bs e1 := by
  show (match e.getD i .no with
    | .sh (.fn f) => match G.fns[f]? with
      | some _ => ((evR G call xs).bs e).bind fun bs e1 => goCall G call f bs e1
      | none => .st
    | _ => .st) = _
  rw [h]
  show (match G.fns[f]? with
      | some _ => ((evR G call xs).bs e).bind fun bs e1 => goCall G call f bs e1
      | none => .st) = _
  rw [hf]
  show ((evR G call xs).bs e).bind _ = _
  rw [hb]
  rfl
theorem try_er {G : Cfg} {call : Nat → List Sl → FR} {io : List Bool} {b hs : SS} {c : Nat} {e e1 : Ev} (h : (exR G call io b).x e = .er c e1) : (exR G call io (.tryS b hs)).x e = (exR G call io hs).h c e1 := by
  show (match (exR G call io b).x e with
    | .er c e1 => (exR G call io hs).h c e1
    | o => o) = _
  rw [h]
/-! a list of whole numbers asked whether it holds one -/
theorem pys_rows : ∀ l : List Nat, D.pys (l.map nD) = some (l.map fun n : Nat => PyData.int (n : Int))
  | [] => rfl
  | a :: l => by
    simp only [List.map_cons, D.pys, pys_rows l]
    rfl
theorem rows_shaped (l : List Nat) : SeqAt.shaped (.list (l.map fun n : Nat => PyData.int (n : Int))) = true := by
  obtain ⟨ps, q1, q2, q3, q4⟩ := scal_py (xs := l.map nD) (by rw [List.all_map, List.all_eq_true]; exact fun _ _ => rfl)
  rw [pys_rows] at q1
  cases q1
  exact Bool.and_eq_true_iff.mpr ⟨by simpa [PyData.canLay0] using q3, decide_eq_true (by simp [PyData.depth]; omega)⟩
theorem int_shaped (i : Int) : SeqAt.shaped (.int i) = true := rfl
theorem eqv_int (i j : Int) : PyData.eqv (.int i) (.int j) = decide (i = j) := by
  simp [PyData.eqv]
  rfl
theorem inR (p : Nat) (l : List Nat) : cmpD .In (nD p) (rowsD l) = some (decide (p ∈ l)) := by
  show inList (nD p) (l.map nD) = _
  unfold inList
  rw [pys_rows]
  show (if (SeqAt.shaped (.int (p : Int)) && SeqAt.shaped (.list (l.map fun n : Nat => PyData.int (n : Int)))) = true then some ((l.map fun n : Nat => PyData.int (n : Int)).any fun z => PyData.eqv z (.int (p : Int))) else none) = _
  rw [rows_shaped, int_shaped, Bool.and_self, if_pos rfl]
  congr 1
  rw [List.any_map]
  induction l with
  | nil => rfl
  | cons a l ih =>
    rw [List.any_cons, ih]
    show (PyData.eqv (.int (a : Int)) (.int (p : Int)) || _) = _
    rw [eqv_int]
    by_cases h : p = a
    · subst h
      simp
    · have h2 : ¬ (a : Int) = (p : Int) := by omega
      simp [h, h2]
theorem ninR (p : Nat) (l : List Nat) : cmpD .NotIn (nD p) (rowsD l) = some (!decide (p ∈ l)) := by
  show (cmpD .In (nD p) (rowsD l)).map (!·) = _
  rw [inR]
  rfl
/-! the law's own equality -/
mutual
def D.lim : D → Bool
  | .lst xs => decide (xs.length ≤ 1000000) && D.lims xs
  | .tup xs => decide (xs.length ≤ 1000000) && D.lims xs
  | .fn _ => false
  | .dct _ _ => false
  | .scr _ => false
  | _ => true
def D.lims : List D → Bool
  | [] => true
  | x :: xs => D.lim x && D.lims xs
end
mutual
def D.dep : D → Nat
  | .lst xs => D.deps xs + 1
  | .tup xs => D.deps xs + 1
  | _ => 0
def D.deps : List D → Nat
  | [] => 0
  | x :: xs => max (D.dep x) (D.deps xs)
end
theorem lims_mem : ∀ {xs : List D} {x : D}, D.lims xs = true → x ∈ xs → x.lim = true
  | y :: xs, x, h, hm => by
    obtain ⟨h1, h2⟩ := and2 (show (D.lim y && D.lims xs) = true from h)
    rcases List.mem_cons.mp hm with rfl | hm
    · exact h1
    · exact lims_mem h2 hm
theorem deps_mem : ∀ {xs : List D} {x : D}, x ∈ xs → x.dep ≤ D.deps xs
  | y :: xs, x, hm => by
    show _ ≤ max (D.dep y) (D.deps xs)
    rcases List.mem_cons.mp hm with rfl | hm
    · omega
    · have := deps_mem hm
      omega
theorem leq_any {G : Cfg} {q a : Nat} {nm nm2 : Str} {N N2 : List Str} {bq : SS} (hb : bq = bEq1 a ∨ bq = bEq2 a) (hq : G.fns[q]? = some ⟨nm, 2, N, [], bq⟩) (hN : N.length = 2) (ha : G.fns[a]? = some ⟨nm2, 2, N2, [], bAll q⟩) (hN2 : N2.length = 3) :
    ∀ (n : Nat) (d : D) (k : Nat), d.lim = true → d.dep ≤ n → 2 * n + 1 ≤ k → (fnEval G k q [.sh d, .sh d]).res = .ok (.bl true) false := by
  have flat : ∀ (d : D) (k : Nat), d.lim = true → d.dep = 0 → 1 ≤ k → (fnEval G k q [.sh d, .sh d]).res = .ok (.bl true) false := by
    intro d k h1 h2 hk
    obtain ⟨k, rfl⟩ : ∃ j, k = j + 1 := ⟨k - 1, by omega⟩
    rw [fn_at k [.sh d, .sh d] [.sh d, .sh d] hq rfl (by rw [hN]; rfl)]
    rcases hb with hb | hb <;> subst hb <;> cases d <;> first
      | (simp [D.dep] at h2; done)
      | (cases h1; done)
      | (simp [bEq1, bEq2, D.isNon, exR, evR, ofX, ofF, noR, R.out, R.bind, R.of, with1, with2, withs, Bor.res, Bor.frz, ress, frzs, bl2, dat, Sl.get?, Sl.frz, mkSl, D.mutb, D.flat, D.isNon, truD, binD, unD, augD, cmpD, eqD, scalD, ixD, isiD, Out.res, Res.put, mkArgs, lineOk, sizeLine_eq, ioAt]; done)
  intro n
  induction n with
  | zero => intro d k h1 h2 hk; exact flat d k h1 (by omega) (by omega)
  | succ n ih =>
    intro d k h1 h2 hk
    obtain ⟨k, rfl⟩ : ∃ j, k = j + 2 := ⟨k - 2, by omega⟩
    cases d with
    | lst xs =>
      obtain ⟨g1, g2⟩ := and2 (show (decide (xs.length ≤ 1000000) && D.lims xs) = true from h1)
      have h2 : D.deps xs + 1 ≤ n + 1 := h2
      exact leq_seq hb hq hN ha hN2 k _ xs (.inl rfl) (of_decide_eq_true g1) fun x hx => ih x k (lims_mem g2 hx) (by have := deps_mem hx; omega) (by omega)
    | tup xs =>
      obtain ⟨g1, g2⟩ := and2 (show (decide (xs.length ≤ 1000000) && D.lims xs) = true from h1)
      have h2 : D.deps xs + 1 ≤ n + 1 := h2
      exact leq_seq hb hq hN ha hN2 k _ xs (.inr rfl) (of_decide_eq_true g1) fun x hx => ih x k (lims_mem g2 hx) (by have := deps_mem hx; omega) (by omega)
    | _ => exact flat _ _ h1 rfl (by omega)
theorem lims_rows : ∀ l : List Nat, D.lims (l.map nD) = true
  | [] => rfl
  | a :: l => lims_rows l
theorem deps_rows : ∀ l : List Nat, D.deps (l.map nD) = 0
  | [] => rfl
  | a :: l => by
    show max 0 (D.deps (l.map nD)) = 0
    rw [deps_rows l]
    rfl
theorem lim_rows {l : List Nat} (h : l.length ≤ 1000000) : (rowsD l).lim = true := Bool.and_eq_true_iff.mpr ⟨decide_eq_true (by simpa using h), lims_rows l⟩
theorem dep_rows (l : List Nat) : (rowsD l).dep = 1 := by
  show D.deps (l.map nD) + 1 = 1
  rw [deps_rows]
end EV
/-! More of the laws' own helpers: the drawing below a bound, ones, the greatest common divisor. -/
namespace EV
open PySem
def fDraw2 (m : Nat) : Fn := ⟨"_law_draw", 2, ["draws", "many", "at", "first"], [true, false], (.seq (.asg 2 (.ix (.var 0) (.lit (.int 1)))) (.seq (.asgI 0 (.lit (.int 1)) (.bin .Add (.var 2) (.lit (.int 1)))) (.seq (.cond (.cmp .Lt (.var 2) (.bi .len (.cons (.ix (.var 0) (.lit (.int 0))) .nil))) (.seq (.ret (.bin .Mod (.ix (.ix (.var 0) (.lit (.int 0))) (.var 2)) (.var 1))) .skip) .skip) (.seq (.asg 3 (.bin .Add (.lit (.int 1)) (.var 2))) (.seq (.cond (.cmp .Gt (.bi .len (.cons (.ix (.var 0) (.lit (.int 0))) .nil)) (.lit (.int 0))) (.seq (.asg 3 (.bin .Add (.var 3) (.bin .Mult (.lit (.int 1009)) (.ix (.ix (.var 0) (.lit (.int 0))) (.lit (.int 0)))))) .skip) .skip) (.seq (.ret (.bin .Mod (.bin .FloorDiv (.call m (.cons (.call m (.cons (.var 3) (.cons (.var 2) .nil))) (.cons (.lit (.int 5)) .nil))) (.lit (.int 7))) (.var 1))) .skip))))))⟩
section
variable {G : Cfg} {m : Nat}
theorem goM' (hm : G.fns[m]? = some fMixed) (call : Nat → List Sl → FR) (b0 b1 : Bor) (e : Ev) : goCall G call m [b0, b1] e = (match mkArgs e [] [b0, b1] with | none => .st | some z => (call m z.1).res.put e z.2) := go_pure call [b0, b1] e hm rfl rfl
theorem ixDr0 (l : List Nat) (a : Nat) : ixD (drD l a) (nD 0) = some (rowsD l) := at0 _ _
theorem ixDr1 (l : List Nat) (a : Nat) : ixD (drD l a) (nD 1) = some (nD a) := at1 _ _ _
theorem setDr (l : List Nat) (a b : Nat) : setD (drD l a) (nD 1) (nD b) = some (drD l b) := by
  simp [drD, nD, setD, L2.ixN]
theorem draw2_ok {f : Nat} (hm : G.fns[m]? = some fMixed) (hf : G.fns[f]? = some (fDraw2 m)) (k : Nat) (l : List Nat) (at_ q : Nat) (hs : small l) (hl : l.length ≤ 4000) (ha : at_ < 1000000) (hq : 0 < q) (h : 2 ≤ k) : ∃ (v : Nat) (e : Ev), v < q ∧ fnEval G k f [.ow (drD l at_), .sh (nD q)] = .ok (nD v) false e ∧ e.getD 0 .no = .ow (drD l (at_ + 1)) := by
  obtain ⟨k, rfl⟩ : ∃ j, k = j + 1 := ⟨k - 1, by omega⟩
  rw [fn_step (fi := fDraw2 m) k _ hf rfl]
  show ∃ (v : Nat) (e : Ev), v < q ∧ ((exR G (fnEval G k) [true, false] (fDraw2 m).body).x [.ow (drD l at_), .sh (nD q), .no, .no]).fr = .ok (nD v) false e ∧ e.getD 0 .no = .ow (drD l (at_ + 1))
  have s1 : (exR G (fnEval G k) [true, false] (.asg 2 (.ix (.var 0) (.lit (.int 1))))).x [.ow (drD l at_), .sh (nD q), .no, .no] = .nx [.ow (drD l at_), .sh (nD q), .sh (nD at_), .no] := by
    simp [ixDr1, exR, evR, lineOk, sizeLine_eq, ofX, ofF, noR, R.out, R.bind, R.of, with1, with2, withs, Bor.res, Bor.frz, ress, frzs, bl2, dat, Sl.get?, Sl.frz, mkSl, Out.res, Res.put, mkArgs, ioAt, doCall, putIos, nd0, nd1, ndl, ndc, nAdd, nSub, nMul, nDiv, nMod, nShl, nShr, nAnd, nXor, nPow, sAdd, lAdd, rAdd, tAdd, lMul, sMul, cEqN, cEqS, cEqB, cNeN, cNeS, cNeB, cLt, cLe, cGt, cGe, cIs, cIsN, isNonN, isNonS, isNonL, isNonR, isNonT, isNonB, isNon0, inS, ninS, tN, tB, tL, tT, tR, t0, bLenL, bLenT, bLenR, bLenS, bIntN, bMin, bMax, bSum, bLstL, bLstT, bTupL, bTupT, ixL, ixT, ixR, ixS, isiN, isiR, flatN, flatR, mutN, mutR, itR, itL, itT, itS, cNilR, cNilN, cNilL, cNilM, meTyJ, inR, ninR, flat0, flatB, flatI, flatS, flatF, flatL, flatT, flatD, mut0, mutB, mutI, mutS, mutF, mutL, mutT, mutD, isi0, isiB, isiI, isiS, isiL, isiT, isiDc]
  have s2 : (exR G (fnEval G k) [true, false] (.asgI 0 (.lit (.int 1)) (.bin .Add (.var 2) (.lit (.int 1))))).x [.ow (drD l at_), .sh (nD q), .sh (nD at_), .no] = .nx [.ow (drD l (at_ + 1)), .sh (nD q), .sh (nD at_), .no] := by
    simp [setDr, exR, evR, lineOk, sizeLine_eq, ofX, ofF, noR, R.out, R.bind, R.of, with1, with2, withs, Bor.res, Bor.frz, ress, frzs, bl2, dat, Sl.get?, Sl.frz, mkSl, Out.res, Res.put, mkArgs, ioAt, doCall, putIos, nd0, nd1, ndl, ndc, nAdd, nSub, nMul, nDiv, nMod, nShl, nShr, nAnd, nXor, nPow, sAdd, lAdd, rAdd, tAdd, lMul, sMul, cEqN, cEqS, cEqB, cNeN, cNeS, cNeB, cLt, cLe, cGt, cGe, cIs, cIsN, isNonN, isNonS, isNonL, isNonR, isNonT, isNonB, isNon0, inS, ninS, tN, tB, tL, tT, tR, t0, bLenL, bLenT, bLenR, bLenS, bIntN, bMin, bMax, bSum, bLstL, bLstT, bTupL, bTupT, ixL, ixT, ixR, ixS, isiN, isiR, flatN, flatR, mutN, mutR, itR, itL, itT, itS, cNilR, cNilN, cNilL, cNilM, meTyJ, inR, ninR, flat0, flatB, flatI, flatS, flatF, flatL, flatT, flatD, mut0, mutB, mutI, mutS, mutF, mutL, mutT, mutD, isi0, isiB, isiI, isiS, isiL, isiT, isiDc]
  unfold fDraw2
  rw [seq_nx s1, seq_nx s2]
  by_cases hb : at_ < l.length
  · have a2 := ixR hb
    rw [seq_rt ((cond_tt (e1 := [.ow (drD l (at_ + 1)), .sh (nD q), .sh (nD at_), .no]) (by simp [ixDr0, hb, exR, evR, lineOk, sizeLine_eq, ofX, ofF, noR, R.out, R.bind, R.of, with1, with2, withs, Bor.res, Bor.frz, ress, frzs, bl2, dat, Sl.get?, Sl.frz, mkSl, Out.res, Res.put, mkArgs, ioAt, doCall, putIos, nd0, nd1, ndl, ndc, nAdd, nSub, nMul, nDiv, nMod, nShl, nShr, nAnd, nXor, nPow, sAdd, lAdd, rAdd, tAdd, lMul, sMul, cEqN, cEqS, cEqB, cNeN, cNeS, cNeB, cLt, cLe, cGt, cGe, cIs, cIsN, isNonN, isNonS, isNonL, isNonR, isNonT, isNonB, isNon0, inS, ninS, tN, tB, tL, tT, tR, t0, bLenL, bLenT, bLenR, bLenS, bIntN, bMin, bMax, bSum, bLstL, bLstT, bTupL, bTupT, ixL, ixT, ixR, ixS, isiN, isiR, flatN, flatR, mutN, mutR, itR, itL, itT, itS, cNilR, cNilN, cNilL, cNilM, meTyJ, inR, ninR, flat0, flatB, flatI, flatS, flatF, flatL, flatT, flatD, mut0, mutB, mutI, mutS, mutF, mutL, mutT, mutD, isi0, isiB, isiI, isiS, isiL, isiT, isiDc])).trans (seq_rt (ret_f (x := (nD (l.getD at_ 0 % q), false)) (e1 := [.ow (drD l (at_ + 1)), .sh (nD q), .sh (nD at_), .no]) (by intro i h; cases h) (by
      have md := nMod (a := l.getD at_ 0) hq
      generalize l.getD at_ 0 = c at a2 md ⊢
      simp [ixDr0, a2, md, exR, evR, lineOk, sizeLine_eq, ofX, ofF, noR, R.out, R.bind, R.of, with1, with2, withs, Bor.res, Bor.frz, ress, frzs, bl2, dat, Sl.get?, Sl.frz, mkSl, Out.res, Res.put, mkArgs, ioAt, doCall, putIos, nd0, nd1, ndl, ndc, nAdd, nSub, nMul, nDiv, nMod, nShl, nShr, nAnd, nXor, nPow, sAdd, lAdd, rAdd, tAdd, lMul, sMul, cEqN, cEqS, cEqB, cNeN, cNeS, cNeB, cLt, cLe, cGt, cGe, cIs, cIsN, isNonN, isNonS, isNonL, isNonR, isNonT, isNonB, isNon0, inS, ninS, tN, tB, tL, tT, tR, t0, bLenL, bLenT, bLenR, bLenS, bIntN, bMin, bMax, bSum, bLstL, bLstT, bTupL, bTupT, ixL, ixT, ixR, ixS, isiN, isiR, flatN, flatR, mutN, mutR, itR, itL, itT, itS, cNilR, cNilN, cNilL, cNilM, meTyJ, inR, ninR, flat0, flatB, flatI, flatS, flatF, flatL, flatT, flatD, mut0, mutB, mutI, mutS, mutF, mutL, mutT, mutD, isi0, isiB, isiI, isiS, isiL, isiT, isiDc]))))]
    exact ⟨_, _, Nat.mod_lt _ hq, rfl, rfl⟩
  · have s3 := seq_nx (r := (.seq (.asg 3 (.bin .Add (.lit (.int 1)) (.var 2))) (.seq (.cond (.cmp .Gt (.bi .len (.cons (.ix (.var 0) (.lit (.int 0))) .nil)) (.lit (.int 0))) (.seq (.asg 3 (.bin .Add (.var 3) (.bin .Mult (.lit (.int 1009)) (.ix (.ix (.var 0) (.lit (.int 0))) (.lit (.int 0)))))) .skip) .skip) (.seq (.ret (.bin .Mod (.bin .FloorDiv (.call m (.cons (.call m (.cons (.var 3) (.cons (.var 2) .nil))) (.cons (.lit (.int 5)) .nil))) (.lit (.int 7))) (.var 1))) .skip)))) ((cond_ff (G := G) (call := fnEval G k) (io := [true, false]) (c := .cmp .Lt (.var 2) (.bi .len (.cons (.ix (.var 0) (.lit (.int 0))) .nil))) (s := .seq (.ret (.bin .Mod (.ix (.ix (.var 0) (.lit (.int 0))) (.var 2)) (.var 1))) .skip) (r := .skip) (e := [.ow (drD l (at_ + 1)), .sh (nD q), .sh (nD at_), .no]) (e1 := [.ow (drD l (at_ + 1)), .sh (nD q), .sh (nD at_), .no]) (by simp [ixDr0, hb, exR, evR, lineOk, sizeLine_eq, ofX, ofF, noR, R.out, R.bind, R.of, with1, with2, withs, Bor.res, Bor.frz, ress, frzs, bl2, dat, Sl.get?, Sl.frz, mkSl, Out.res, Res.put, mkArgs, ioAt, doCall, putIos, nd0, nd1, ndl, ndc, nAdd, nSub, nMul, nDiv, nMod, nShl, nShr, nAnd, nXor, nPow, sAdd, lAdd, rAdd, tAdd, lMul, sMul, cEqN, cEqS, cEqB, cNeN, cNeS, cNeB, cLt, cLe, cGt, cGe, cIs, cIsN, isNonN, isNonS, isNonL, isNonR, isNonT, isNonB, isNon0, inS, ninS, tN, tB, tL, tT, tR, t0, bLenL, bLenT, bLenR, bLenS, bIntN, bMin, bMax, bSum, bLstL, bLstT, bTupL, bTupT, ixL, ixT, ixR, ixS, isiN, isiR, flatN, flatR, mutN, mutR, itR, itL, itT, itS, cNilR, cNilN, cNilL, cNilM, meTyJ, inR, ninR, flat0, flatB, flatI, flatS, flatF, flatL, flatT, flatD, mut0, mutB, mutI, mutS, mutF, mutL, mutT, mutD, isi0, isiB, isiI, isiS, isiL, isiT, isiDc])).trans skip_nx)
    rw [s3]
    have s4 : (exR G (fnEval G k) [true, false] (.asg 3 (.bin .Add (.lit (.int 1)) (.var 2)))).x [.ow (drD l (at_ + 1)), .sh (nD q), .sh (nD at_), .no] = .nx [.ow (drD l (at_ + 1)), .sh (nD q), .sh (nD at_), .sh (nD (1 + at_))] := by
      simp [exR, evR, lineOk, sizeLine_eq, ofX, ofF, noR, R.out, R.bind, R.of, with1, with2, withs, Bor.res, Bor.frz, ress, frzs, bl2, dat, Sl.get?, Sl.frz, mkSl, Out.res, Res.put, mkArgs, ioAt, doCall, putIos, nd0, nd1, ndl, ndc, nAdd, nSub, nMul, nDiv, nMod, nShl, nShr, nAnd, nXor, nPow, sAdd, lAdd, rAdd, tAdd, lMul, sMul, cEqN, cEqS, cEqB, cNeN, cNeS, cNeB, cLt, cLe, cGt, cGe, cIs, cIsN, isNonN, isNonS, isNonL, isNonR, isNonT, isNonB, isNon0, inS, ninS, tN, tB, tL, tT, tR, t0, bLenL, bLenT, bLenR, bLenS, bIntN, bMin, bMax, bSum, bLstL, bLstT, bTupL, bTupT, ixL, ixT, ixR, ixS, isiN, isiR, flatN, flatR, mutN, mutR, itR, itL, itT, itS, cNilR, cNilN, cNilL, cNilM, meTyJ, inR, ninR, flat0, flatB, flatI, flatS, flatF, flatL, flatT, flatD, mut0, mutB, mutI, mutS, mutF, mutL, mutT, mutD, isi0, isiB, isiI, isiS, isiL, isiT, isiDc]
    rw [seq_nx s4]
    have s5 : ∃ f : Nat, (exR G (fnEval G k) [true, false] (.cond (.cmp .Gt (.bi .len (.cons (.ix (.var 0) (.lit (.int 0))) .nil)) (.lit (.int 0))) (.seq (.asg 3 (.bin .Add (.var 3) (.bin .Mult (.lit (.int 1009)) (.ix (.ix (.var 0) (.lit (.int 0))) (.lit (.int 0)))))) .skip) .skip)).x [.ow (drD l (at_ + 1)), .sh (nD q), .sh (nD at_), .sh (nD (1 + at_))] = .nx [.ow (drD l (at_ + 1)), .sh (nD q), .sh (nD at_), .sh (nD f)] := by
      by_cases hz : 0 < l.length
      · have a2 := ixR hz
        refine ⟨1 + at_ + 1009 * l.getD 0 0, ?_⟩
        generalize l.getD 0 0 = c at a2 ⊢
        have mu := nMul (a := 1009) (b := c) (.inl (by decide))
        rw [cond_tt (e1 := [.ow (drD l (at_ + 1)), .sh (nD q), .sh (nD at_), .sh (nD (1 + at_))]) (by simp [ixDr0, hz, exR, evR, lineOk, sizeLine_eq, ofX, ofF, noR, R.out, R.bind, R.of, with1, with2, withs, Bor.res, Bor.frz, ress, frzs, bl2, dat, Sl.get?, Sl.frz, mkSl, Out.res, Res.put, mkArgs, ioAt, doCall, putIos, nd0, nd1, ndl, ndc, nAdd, nSub, nMul, nDiv, nMod, nShl, nShr, nAnd, nXor, nPow, sAdd, lAdd, rAdd, tAdd, lMul, sMul, cEqN, cEqS, cEqB, cNeN, cNeS, cNeB, cLt, cLe, cGt, cGe, cIs, cIsN, isNonN, isNonS, isNonL, isNonR, isNonT, isNonB, isNon0, inS, ninS, tN, tB, tL, tT, tR, t0, bLenL, bLenT, bLenR, bLenS, bIntN, bMin, bMax, bSum, bLstL, bLstT, bTupL, bTupT, ixL, ixT, ixR, ixS, isiN, isiR, flatN, flatR, mutN, mutR, itR, itL, itT, itS, cNilR, cNilN, cNilL, cNilM, meTyJ, inR, ninR, flat0, flatB, flatI, flatS, flatF, flatL, flatT, flatD, mut0, mutB, mutI, mutS, mutF, mutL, mutT, mutD, isi0, isiB, isiI, isiS, isiL, isiT, isiDc])]
        rw [seq_nx (asg_nx (x := (nD (1 + at_ + 1009 * c), false)) (e1 := [.ow (drD l (at_ + 1)), .sh (nD q), .sh (nD at_), .sh (nD (1 + at_))]) (by simp [ixDr0, a2, mu, exR, evR, lineOk, sizeLine_eq, ofX, ofF, noR, R.out, R.bind, R.of, with1, with2, withs, Bor.res, Bor.frz, ress, frzs, bl2, dat, Sl.get?, Sl.frz, mkSl, Out.res, Res.put, mkArgs, ioAt, doCall, putIos, nd0, nd1, ndl, ndc, nAdd, nSub, nMul, nDiv, nMod, nShl, nShr, nAnd, nXor, nPow, sAdd, lAdd, rAdd, tAdd, lMul, sMul, cEqN, cEqS, cEqB, cNeN, cNeS, cNeB, cLt, cLe, cGt, cGe, cIs, cIsN, isNonN, isNonS, isNonL, isNonR, isNonT, isNonB, isNon0, inS, ninS, tN, tB, tL, tT, tR, t0, bLenL, bLenT, bLenR, bLenS, bIntN, bMin, bMax, bSum, bLstL, bLstT, bTupL, bTupT, ixL, ixT, ixR, ixS, isiN, isiR, flatN, flatR, mutN, mutR, itR, itL, itT, itS, cNilR, cNilN, cNilL, cNilM, meTyJ, inR, ninR, flat0, flatB, flatI, flatS, flatF, flatL, flatT, flatD, mut0, mutB, mutI, mutS, mutF, mutL, mutT, mutD, isi0, isiB, isiI, isiS, isiL, isiT, isiDc]) rfl)]
        rfl
      · refine ⟨1 + at_, ?_⟩
        rw [cond_ff (e1 := [.ow (drD l (at_ + 1)), .sh (nD q), .sh (nD at_), .sh (nD (1 + at_))]) (by simp [ixDr0, hz, exR, evR, lineOk, sizeLine_eq, ofX, ofF, noR, R.out, R.bind, R.of, with1, with2, withs, Bor.res, Bor.frz, ress, frzs, bl2, dat, Sl.get?, Sl.frz, mkSl, Out.res, Res.put, mkArgs, ioAt, doCall, putIos, nd0, nd1, ndl, ndc, nAdd, nSub, nMul, nDiv, nMod, nShl, nShr, nAnd, nXor, nPow, sAdd, lAdd, rAdd, tAdd, lMul, sMul, cEqN, cEqS, cEqB, cNeN, cNeS, cNeB, cLt, cLe, cGt, cGe, cIs, cIsN, isNonN, isNonS, isNonL, isNonR, isNonT, isNonB, isNon0, inS, ninS, tN, tB, tL, tT, tR, t0, bLenL, bLenT, bLenR, bLenS, bIntN, bMin, bMax, bSum, bLstL, bLstT, bTupL, bTupT, ixL, ixT, ixR, ixS, isiN, isiR, flatN, flatR, mutN, mutR, itR, itL, itT, itS, cNilR, cNilN, cNilL, cNilM, meTyJ, inR, ninR, flat0, flatB, flatI, flatS, flatF, flatL, flatT, flatD, mut0, mutB, mutI, mutS, mutF, mutL, mutT, mutD, isi0, isiB, isiI, isiS, isiL, isiT, isiDc])]
        rfl
    obtain ⟨f, s5⟩ := s5
    rw [seq_nx s5]
    obtain ⟨v1, _, w1⟩ := mixed_ok hm k f at_ (by omega)
    obtain ⟨v2, _, w2⟩ := mixed_ok hm k v1 5 (by omega)
    refine ⟨v2 / 7 % q, [.ow (drD l (at_ + 1)), .sh (nD q), .sh (nD at_), .sh (nD f)], Nat.mod_lt _ hq, ?_, rfl⟩
    have md := nMod (a := v2 / 7) hq
    have w1 : (fnEval G k m [.sh (nD f), .sh (nD at_)]).res = .ok (nD v1) false := w1
    have w2 : (fnEval G k m [.sh (nD v1), .sh (nD 5)]).res = .ok (nD v2) false := w2
    rw [seq_rt (ret_f (x := (nD (v2 / 7 % q), false)) (e1 := [.ow (drD l (at_ + 1)), .sh (nD q), .sh (nD at_), .sh (nD f)]) (by intro i h; cases h) (by simp [goM' hm, w1, w2, md, exR, evR, lineOk, sizeLine_eq, ofX, ofF, noR, R.out, R.bind, R.of, with1, with2, withs, Bor.res, Bor.frz, ress, frzs, bl2, dat, Sl.get?, Sl.frz, mkSl, Out.res, Res.put, mkArgs, ioAt, doCall, putIos, nd0, nd1, ndl, ndc, nAdd, nSub, nMul, nDiv, nMod, nShl, nShr, nAnd, nXor, nPow, sAdd, lAdd, rAdd, tAdd, lMul, sMul, cEqN, cEqS, cEqB, cNeN, cNeS, cNeB, cLt, cLe, cGt, cGe, cIs, cIsN, isNonN, isNonS, isNonL, isNonR, isNonT, isNonB, isNon0, inS, ninS, tN, tB, tL, tT, tR, t0, bLenL, bLenT, bLenR, bLenS, bIntN, bMin, bMax, bSum, bLstL, bLstT, bTupL, bTupT, ixL, ixT, ixR, ixS, isiN, isiR, flatN, flatR, mutN, mutR, itR, itL, itT, itS, cNilR, cNilN, cNilL, cNilM, meTyJ, inR, ninR, flat0, flatB, flatI, flatS, flatF, flatL, flatT, flatD, mut0, mutB, mutI, mutS, mutF, mutL, mutT, mutD, isi0, isiB, isiI, isiS, isiL, isiT, isiDc]))]
    rfl
/-- drawing below q, as an expression; the bound may draw itself -/
theorem draw2_any {f : Nat} (hm : G.fns[m]? = some fMixed) (hf : G.fns[f]? = some (fDraw2 m)) (k : Nat) (i : Nat) (l : List Nat) (at_ q : Nat) (hs : small l) (hl : l.length ≤ 4000) (ha : at_ < 1000000) (hq : 0 < q) (h : 2 ≤ k) (a : SE) (e e' : Ev) (d0 : D) (h0 : e.getD i .no = .ow d0) (ha2 : (evR G (fnEval G k) a).b e = .ok (.dat (nD q)) e') (hi : e'.getD i .no = .ow (drD l at_)) :
    ∃ v : Nat, v < q ∧ (evR G (fnEval G k) (.call f (.cons (.var i) (.cons a .nil)))).f e = .ok (nD v, false) (e'.set i (.ow (drD l (at_ + 1)))) := by
  obtain ⟨v, e2, hv, h1, h2⟩ := draw2_ok hm hf k l at_ q hs hl ha hq h
  refine ⟨v, hv, ?_⟩
  have hb : (evR G (fnEval G k) (.cons (.var i) (.cons a .nil))).bs e = .ok [.slot i, .dat (nD q)] e' := cons_bs (by
    show (match e.getD i .no with
      | .no => R.st
      | .sh d => R.ok (Bor.dat d) e
      | .ow _ => R.ok (Bor.slot i) e) = _
    rw [h0]) (cons_bs ha2 nil_bs)
  rw [call_f hb]
  show (match G.fns[f]? with
    | some fi => if fi.np = [Bor.slot i, Bor.dat (nD q)].length then doCall (fnEval G k) fi.io f [.slot i, .dat (nD q)] e' else .st
    | none => .st) = _
  rw [hf]
  show doCall (fnEval G k) [true, false] f [.slot i, .dat (nD q)] e' = _
  have hm : mkArgs e' [true, false] [.slot i, .dat (nD q)] = some ([.ow (drD l at_), .sh (nD q)], e'.set i .no) := by
    simp only [mkArgs, hi, Bor.res, Bor.frz, Option.map_some]
  unfold doCall
  rw [hm]
  simp only [h1]
  show (if (nD v).flat && !([true, false].any id) then _ else _) = _
  rw [if_neg (by simp)]
  show R.ok (nD v, false) ((e'.set i .no).set i (e2.getD 0 .no)) = _
  rw [h2, List.set_set]
theorem draw2_call {f : Nat} (hm : G.fns[m]? = some fMixed) (hf : G.fns[f]? = some (fDraw2 m)) (k : Nat) (i : Nat) (l : List Nat) (at_ q : Nat) (hs : small l) (hl : l.length ≤ 4000) (ha : at_ < 1000000) (hq : 0 < q) (h : 2 ≤ k) (a : SE) (e : Ev) (ha2 : (evR G (fnEval G k) a).b e = .ok (.dat (nD q)) e) (hi : e.getD i .no = .ow (drD l at_)) :
    ∃ v : Nat, v < q ∧ (evR G (fnEval G k) (.call f (.cons (.var i) (.cons a .nil)))).f e = .ok (nD v, false) (e.set i (.ow (drD l (at_ + 1)))) := draw2_any hm hf k i l at_ q hs hl ha hq h a e e _ hi ha2 hi
/-! ones -/
def pcN (n : Nat) : Nat := if h : n = 0 then 0 else n % 2 + pcN (n / 2)
termination_by n
theorem pcN_0 : pcN 0 = 0 := by rw [pcN]; rfl
theorem pcN_step (n : Nat) : pcN n = n % 2 + pcN (n / 2) := by
  by_cases h : n = 0
  · subst h
    simp [pcN_0]
  · rw [pcN, dif_neg h]
def bOnesA : SS := (.seq (.asg 1 (.lit (.int 0))) (.seq (.whil (.cmp .Gt (.var 0) (.lit (.int 0))) (.seq (.aug 1 .Add (.bin .BitAnd (.var 0) (.lit (.int 1)))) (.seq (.asg 0 (.bin .RShift (.var 0) (.lit (.int 1)))) .skip))) (.seq (.ret (.var 1)) .skip)))
def bOnesB : SS := (.seq (.asg 1 (.lit (.int 0))) (.seq (.whil (.cmp .Gt (.var 0) (.lit (.int 0))) (.seq (.asg 1 (.bin .Add (.var 1) (.bin .Mod (.var 0) (.lit (.int 2))))) (.seq (.asg 0 (.bin .FloorDiv (.var 0) (.lit (.int 2)))) .skip))) (.seq (.ret (.var 1)) .skip)))
theorem and1 (p : Nat) : p &&& 1 = p % 2 := Nat.and_one_is_mod p
theorem ones_loop {test : Ev → R Bool} {body : Ev → Out} {F p : Nat} (hF : p < F) (ht : ∀ p q : Nat, test [.sh (nD p), .sh (nD q)] = .ok (decide (0 < p)) [.sh (nD p), .sh (nD q)]) (hb : ∀ p q : Nat, body [.sh (nD p), .sh (nD q)] = .nx [.sh (nD (p / 2)), .sh (nD (q + p % 2))]) : whileL test body F [.sh (nD p), .sh (nD 0)] = .nx [.sh (nD 0), .sh (nD (pcN p))] := by
  obtain ⟨b, e', i, h1, h2, h3, h4, _⟩ := while_thru (fun (a : Nat × Nat) e => e = [.sh (nD a.1), .sh (nD a.2)]) (fun a => decide (0 < a.1)) (fun a => (a.1 / 2, a.2 + a.1 % 2)) (fun a => a.1) (fun a => a.2 + pcN a.1 = pcN p) (fun a e _ he => by subst he; exact ht _ _) (fun a e hP hc he => by
    subst he
    have hc : 0 < a.1 := of_decide_eq_true hc
    refine ⟨_, hb _ _, rfl, ?_, ?_⟩
    · have := pcN_step a.1
      show a.2 + a.1 % 2 + pcN (a.1 / 2) = pcN p
      omega
    · show a.1 / 2 < a.1
      omega) F (p, 0) [.sh (nD p), .sh (nD 0)] (by simp) rfl hF
  have hz : b.1 = 0 := by simpa using h3
  rw [h1, h2, hz]
  rw [hz, pcN_0, Nat.add_zero] at h4
  rw [h4]
theorem ones_ok {f : Nat} {nm : Str} {N : List Str} {b : SS} (hb : b = bOnesA ∨ b = bOnesB) (hf : G.fns[f]? = some ⟨nm, 1, N, [], b⟩) (hN : N.length = 2) (k p : Nat) (hp : p < G.fuel) (h : 1 ≤ k) : (fnEval G k f [.sh (nD p)]).res = .ok (nD (pcN p)) false := by
  obtain ⟨k, rfl⟩ : ∃ j, k = j + 1 := ⟨k - 1, by omega⟩
  rw [fn_at k [.sh (nD p)] [.sh (nD p), .no] hf rfl (by rw [hN]; rfl)]
  rcases hb with rfl | rfl
  · unfold bOnesA
    refine go_asg (Is _) (x := (nD 0, false)) (e1 := [.sh (nD p), .no]) rfl rfl ?_
    show Is _ ((exR G (fnEval G k) [] _).x [.sh (nD p), .sh (nD 0)])
    refine go_nx (Is _) (whil_nx (ones_loop hp (fun p q => ?_) (fun p q => ?_))) ?_
    · simp [exR, evR, lineOk, sizeLine_eq, ofX, ofF, noR, R.out, R.bind, R.of, with1, with2, withs, Bor.res, Bor.frz, ress, frzs, bl2, dat, Sl.get?, Sl.frz, mkSl, Out.res, Res.put, mkArgs, ioAt, doCall, putIos, nd0, nd1, ndl, ndc, nAdd, nSub, nMul, nDiv, nMod, nShl, nShr, nAnd, nXor, nPow, sAdd, lAdd, rAdd, tAdd, lMul, sMul, cEqN, cEqS, cEqB, cNeN, cNeS, cNeB, cLt, cLe, cGt, cGe, cIs, cIsN, isNonN, isNonS, isNonL, isNonR, isNonT, isNonB, isNon0, inS, ninS, tN, tB, tL, tT, tR, t0, bLenL, bLenT, bLenR, bLenS, bIntN, bMin, bMax, bSum, bLstL, bLstT, bTupL, bTupT, ixL, ixT, ixR, ixS, isiN, isiR, flatN, flatR, mutN, mutR, itR, itL, itT, itS, cNilR, cNilN, cNilL, cNilM, meTyJ, inR, ninR, flat0, flatB, flatI, flatS, flatF, flatL, flatT, flatD, mut0, mutB, mutI, mutS, mutF, mutL, mutT, mutD, isi0, isiB, isiI, isiS, isiL, isiT, isiDc]
    · rw [seq_nx (aug_nx (d := nD q) (x := (nD (p % 2), false)) (z := nD (q + p % 2)) (e1 := [.sh (nD p), .sh (nD q)]) rfl rfl (by simp [and1, exR, evR, lineOk, sizeLine_eq, ofX, ofF, noR, R.out, R.bind, R.of, with1, with2, withs, Bor.res, Bor.frz, ress, frzs, bl2, dat, Sl.get?, Sl.frz, mkSl, Out.res, Res.put, mkArgs, ioAt, doCall, putIos, nd0, nd1, ndl, ndc, nAdd, nSub, nMul, nDiv, nMod, nShl, nShr, nAnd, nXor, nPow, sAdd, lAdd, rAdd, tAdd, lMul, sMul, cEqN, cEqS, cEqB, cNeN, cNeS, cNeB, cLt, cLe, cGt, cGe, cIs, cIsN, isNonN, isNonS, isNonL, isNonR, isNonT, isNonB, isNon0, inS, ninS, tN, tB, tL, tT, tR, t0, bLenL, bLenT, bLenR, bLenS, bIntN, bMin, bMax, bSum, bLstL, bLstT, bTupL, bTupT, ixL, ixT, ixR, ixS, isiN, isiR, flatN, flatR, mutN, mutR, itR, itL, itT, itS, cNilR, cNilN, cNilL, cNilM, meTyJ, inR, ninR, flat0, flatB, flatI, flatS, flatF, flatL, flatT, flatD, mut0, mutB, mutI, mutS, mutF, mutL, mutT, mutD, isi0, isiB, isiI, isiS, isiL, isiT, isiDc]) rfl)]
      show (exR G (fnEval G k) [] _).x [.sh (nD p), .sh (nD (q + p % 2))] = _
      rw [seq_nx (asg_nx (x := (nD (p / 2), false)) (e1 := [.sh (nD p), .sh (nD (q + p % 2))]) (by simp [exR, evR, lineOk, sizeLine_eq, ofX, ofF, noR, R.out, R.bind, R.of, with1, with2, withs, Bor.res, Bor.frz, ress, frzs, bl2, dat, Sl.get?, Sl.frz, mkSl, Out.res, Res.put, mkArgs, ioAt, doCall, putIos, nd0, nd1, ndl, ndc, nAdd, nSub, nMul, nDiv, nMod, nShl, nShr, nAnd, nXor, nPow, sAdd, lAdd, rAdd, tAdd, lMul, sMul, cEqN, cEqS, cEqB, cNeN, cNeS, cNeB, cLt, cLe, cGt, cGe, cIs, cIsN, isNonN, isNonS, isNonL, isNonR, isNonT, isNonB, isNon0, inS, ninS, tN, tB, tL, tT, tR, t0, bLenL, bLenT, bLenR, bLenS, bIntN, bMin, bMax, bSum, bLstL, bLstT, bTupL, bTupT, ixL, ixT, ixR, ixS, isiN, isiR, flatN, flatR, mutN, mutR, itR, itL, itT, itS, cNilR, cNilN, cNilL, cNilM, meTyJ, inR, ninR, flat0, flatB, flatI, flatS, flatF, flatL, flatT, flatD, mut0, mutB, mutI, mutS, mutF, mutL, mutT, mutD, isi0, isiB, isiI, isiS, isiL, isiT, isiDc]) rfl)]
      rfl
    · rw [seq_rt (ret_sh (d := nD (pcN p)) rfl rfl)]
      rfl
  · unfold bOnesB
    refine go_asg (Is _) (x := (nD 0, false)) (e1 := [.sh (nD p), .no]) rfl rfl ?_
    show Is _ ((exR G (fnEval G k) [] _).x [.sh (nD p), .sh (nD 0)])
    refine go_nx (Is _) (whil_nx (ones_loop hp (fun p q => ?_) (fun p q => ?_))) ?_
    · simp [exR, evR, lineOk, sizeLine_eq, ofX, ofF, noR, R.out, R.bind, R.of, with1, with2, withs, Bor.res, Bor.frz, ress, frzs, bl2, dat, Sl.get?, Sl.frz, mkSl, Out.res, Res.put, mkArgs, ioAt, doCall, putIos, nd0, nd1, ndl, ndc, nAdd, nSub, nMul, nDiv, nMod, nShl, nShr, nAnd, nXor, nPow, sAdd, lAdd, rAdd, tAdd, lMul, sMul, cEqN, cEqS, cEqB, cNeN, cNeS, cNeB, cLt, cLe, cGt, cGe, cIs, cIsN, isNonN, isNonS, isNonL, isNonR, isNonT, isNonB, isNon0, inS, ninS, tN, tB, tL, tT, tR, t0, bLenL, bLenT, bLenR, bLenS, bIntN, bMin, bMax, bSum, bLstL, bLstT, bTupL, bTupT, ixL, ixT, ixR, ixS, isiN, isiR, flatN, flatR, mutN, mutR, itR, itL, itT, itS, cNilR, cNilN, cNilL, cNilM, meTyJ, inR, ninR, flat0, flatB, flatI, flatS, flatF, flatL, flatT, flatD, mut0, mutB, mutI, mutS, mutF, mutL, mutT, mutD, isi0, isiB, isiI, isiS, isiL, isiT, isiDc]
    · simp [exR, evR, lineOk, sizeLine_eq, ofX, ofF, noR, R.out, R.bind, R.of, with1, with2, withs, Bor.res, Bor.frz, ress, frzs, bl2, dat, Sl.get?, Sl.frz, mkSl, Out.res, Res.put, mkArgs, ioAt, doCall, putIos, nd0, nd1, ndl, ndc, nAdd, nSub, nMul, nDiv, nMod, nShl, nShr, nAnd, nXor, nPow, sAdd, lAdd, rAdd, tAdd, lMul, sMul, cEqN, cEqS, cEqB, cNeN, cNeS, cNeB, cLt, cLe, cGt, cGe, cIs, cIsN, isNonN, isNonS, isNonL, isNonR, isNonT, isNonB, isNon0, inS, ninS, tN, tB, tL, tT, tR, t0, bLenL, bLenT, bLenR, bLenS, bIntN, bMin, bMax, bSum, bLstL, bLstT, bTupL, bTupT, ixL, ixT, ixR, ixS, isiN, isiR, flatN, flatR, mutN, mutR, itR, itL, itT, itS, cNilR, cNilN, cNilL, cNilM, meTyJ, inR, ninR, flat0, flatB, flatI, flatS, flatF, flatL, flatT, flatD, mut0, mutB, mutI, mutS, mutF, mutL, mutT, mutD, isi0, isiB, isiI, isiS, isiL, isiT, isiDc]
    · rw [seq_rt (ret_sh (d := nD (pcN p)) rfl rfl)]
      rfl
/-! the greatest common divisor -/
def bGcd (c : CmpOp) : SS := (.seq (.whil (.cmp c (.var 1) (.lit (.int 0))) (.seq (.asgT [0, 1] (.tup (.cons (.var 1) (.cons (.bin .Mod (.var 0) (.var 1)) .nil)))) .skip)) (.seq (.ret (.var 0)) .skip))
theorem gcd_ok {f : Nat} {nm : Str} {N : List Str} {c : CmpOp} (hc : c = .NotEq ∨ c = .Gt) (hf : G.fns[f]? = some ⟨nm, 2, N, [], bGcd c⟩) (hN : N.length = 2) (k a b : Nat) (hp : b < G.fuel) (h : 1 ≤ k) : (fnEval G k f [.sh (nD a), .sh (nD b)]).res = .ok (nD (Nat.gcd a b)) false := by
  obtain ⟨k, rfl⟩ : ∃ j, k = j + 1 := ⟨k - 1, by omega⟩
  rw [fn_at k [.sh (nD a), .sh (nD b)] [.sh (nD a), .sh (nD b)] hf rfl (by rw [hN]; rfl)]
  obtain ⟨z, e', i, h1, h2, h3, h4, _⟩ := while_thru (test := (evR G (fnEval G k) (.cmp c (.var 1) (.lit (.int 0)))).t) (body := (exR G (fnEval G k) [] (.seq (.asgT [0, 1] (.tup (.cons (.var 1) (.cons (.bin .Mod (.var 0) (.var 1)) .nil)))) .skip)).x)
    (fun (z : Nat × Nat) e => e = [.sh (nD z.1), .sh (nD z.2)]) (fun z => decide (0 < z.2)) (fun z => (z.2, z.1 % z.2)) (fun z => z.2) (fun z => Nat.gcd z.1 z.2 = Nat.gcd a b) (fun z e _ he => by
      subst he
      rcases hc with rfl | rfl
      · by_cases hz : z.2 = 0
        · simp [hz, exR, evR, lineOk, sizeLine_eq, ofX, ofF, noR, R.out, R.bind, R.of, with1, with2, withs, Bor.res, Bor.frz, ress, frzs, bl2, dat, Sl.get?, Sl.frz, mkSl, Out.res, Res.put, mkArgs, ioAt, doCall, putIos, nd0, nd1, ndl, ndc, nAdd, nSub, nMul, nDiv, nMod, nShl, nShr, nAnd, nXor, nPow, sAdd, lAdd, rAdd, tAdd, lMul, sMul, cEqN, cEqS, cEqB, cNeN, cNeS, cNeB, cLt, cLe, cGt, cGe, cIs, cIsN, isNonN, isNonS, isNonL, isNonR, isNonT, isNonB, isNon0, inS, ninS, tN, tB, tL, tT, tR, t0, bLenL, bLenT, bLenR, bLenS, bIntN, bMin, bMax, bSum, bLstL, bLstT, bTupL, bTupT, ixL, ixT, ixR, ixS, isiN, isiR, flatN, flatR, mutN, mutR, itR, itL, itT, itS, cNilR, cNilN, cNilL, cNilM, meTyJ, inR, ninR, flat0, flatB, flatI, flatS, flatF, flatL, flatT, flatD, mut0, mutB, mutI, mutS, mutF, mutL, mutT, mutD, isi0, isiB, isiI, isiS, isiL, isiT, isiDc]
        · simp [hz, Nat.pos_of_ne_zero hz, exR, evR, lineOk, sizeLine_eq, ofX, ofF, noR, R.out, R.bind, R.of, with1, with2, withs, Bor.res, Bor.frz, ress, frzs, bl2, dat, Sl.get?, Sl.frz, mkSl, Out.res, Res.put, mkArgs, ioAt, doCall, putIos, nd0, nd1, ndl, ndc, nAdd, nSub, nMul, nDiv, nMod, nShl, nShr, nAnd, nXor, nPow, sAdd, lAdd, rAdd, tAdd, lMul, sMul, cEqN, cEqS, cEqB, cNeN, cNeS, cNeB, cLt, cLe, cGt, cGe, cIs, cIsN, isNonN, isNonS, isNonL, isNonR, isNonT, isNonB, isNon0, inS, ninS, tN, tB, tL, tT, tR, t0, bLenL, bLenT, bLenR, bLenS, bIntN, bMin, bMax, bSum, bLstL, bLstT, bTupL, bTupT, ixL, ixT, ixR, ixS, isiN, isiR, flatN, flatR, mutN, mutR, itR, itL, itT, itS, cNilR, cNilN, cNilL, cNilM, meTyJ, inR, ninR, flat0, flatB, flatI, flatS, flatF, flatL, flatT, flatD, mut0, mutB, mutI, mutS, mutF, mutL, mutT, mutD, isi0, isiB, isiI, isiS, isiL, isiT, isiDc]
      · simp [exR, evR, lineOk, sizeLine_eq, ofX, ofF, noR, R.out, R.bind, R.of, with1, with2, withs, Bor.res, Bor.frz, ress, frzs, bl2, dat, Sl.get?, Sl.frz, mkSl, Out.res, Res.put, mkArgs, ioAt, doCall, putIos, nd0, nd1, ndl, ndc, nAdd, nSub, nMul, nDiv, nMod, nShl, nShr, nAnd, nXor, nPow, sAdd, lAdd, rAdd, tAdd, lMul, sMul, cEqN, cEqS, cEqB, cNeN, cNeS, cNeB, cLt, cLe, cGt, cGe, cIs, cIsN, isNonN, isNonS, isNonL, isNonR, isNonT, isNonB, isNon0, inS, ninS, tN, tB, tL, tT, tR, t0, bLenL, bLenT, bLenR, bLenS, bIntN, bMin, bMax, bSum, bLstL, bLstT, bTupL, bTupT, ixL, ixT, ixR, ixS, isiN, isiR, flatN, flatR, mutN, mutR, itR, itL, itT, itS, cNilR, cNilN, cNilL, cNilM, meTyJ, inR, ninR, flat0, flatB, flatI, flatS, flatF, flatL, flatT, flatD, mut0, mutB, mutI, mutS, mutF, mutL, mutT, mutD, isi0, isiB, isiI, isiS, isiL, isiT, isiDc]) (fun z e hP hc he => by
      subst he
      have hc : 0 < z.2 := of_decide_eq_true hc
      have md := nMod (a := z.1) hc
      refine ⟨_, by simp [md, tgD, setAll, exR, evR, lineOk, sizeLine_eq, ofX, ofF, noR, R.out, R.bind, R.of, with1, with2, withs, Bor.res, Bor.frz, ress, frzs, bl2, dat, Sl.get?, Sl.frz, mkSl, Out.res, Res.put, mkArgs, ioAt, doCall, putIos, nd0, nd1, ndl, ndc, nAdd, nSub, nMul, nDiv, nMod, nShl, nShr, nAnd, nXor, nPow, sAdd, lAdd, rAdd, tAdd, lMul, sMul, cEqN, cEqS, cEqB, cNeN, cNeS, cNeB, cLt, cLe, cGt, cGe, cIs, cIsN, isNonN, isNonS, isNonL, isNonR, isNonT, isNonB, isNon0, inS, ninS, tN, tB, tL, tT, tR, t0, bLenL, bLenT, bLenR, bLenS, bIntN, bMin, bMax, bSum, bLstL, bLstT, bTupL, bTupT, ixL, ixT, ixR, ixS, isiN, isiR, flatN, flatR, mutN, mutR, itR, itL, itT, itS, cNilR, cNilN, cNilL, cNilM, meTyJ, inR, ninR, flat0, flatB, flatI, flatS, flatF, flatL, flatT, flatD, mut0, mutB, mutI, mutS, mutF, mutL, mutT, mutD, isi0, isiB, isiI, isiS, isiL, isiT, isiDc], rfl, ?_, Nat.mod_lt _ hc⟩
      show Nat.gcd z.2 (z.1 % z.2) = _
      rw [← hP, Nat.gcd_comm z.1 z.2, Nat.gcd_rec z.2 z.1, Nat.gcd_comm]) G.fuel (a, b) [.sh (nD a), .sh (nD b)] rfl rfl hp
  have hz : z.2 = 0 := by simpa using h3
  rw [hz, Nat.gcd_zero_right] at h4
  subst h2
  unfold bGcd
  rw [seq_nx (whil_nx h1), seq_rt (ret_sh (d := nD z.1) rfl rfl), h4]
  rfl
end
theorem muTyR (l : List Nat) : muTy .append (rowsD l) = true := rfl
theorem muTyL (l : List D) : muTy .append (.lst l) = true := rfl
theorem muAR {l : List Nat} (x : Nat) (h : l.length < 1000000) : muD .append (rowsD l) [nD x] = some (rowsD (l ++ [x]), .non) := by
  show (if decide ((l.map nD).length < sizeLine) = true then some (D.lst (l.map nD ++ [nD x]), D.non) else none) = _
  rw [if_pos (decide_eq_true (by rw [sizeLine_eq, List.length_map]; omega))]
  unfold rowsD
  rw [List.map_append]
  rfl
theorem muAL {l : List D} (x : D) (h : l.length < 1000000) : muD .append (.lst l) [x] = some (.lst (l ++ [x]), .non) := by
  show (if decide (l.length < sizeLine) = true then some (D.lst (l ++ [x]), D.non) else none) = _
  rw [if_pos (decide_eq_true (by rw [sizeLine_eq]; omega))]
theorem rMul {n : Nat} (a : Nat) (h : n ≤ 1000000) : binD .Mult (.lst [nD a]) (nD n) = some (rowsD (List.replicate n a), true) := by
  rw [lMul (by simp; omega) h]
  congr 2
  unfold rowsD
  congr 1
  clear h
  induction n with
  | zero => rfl
  | succ n ih => rw [List.replicate_succ, List.replicate_succ, List.flatten_cons, List.map_cons, ih]; rfl
theorem ixRange {n j : Nat} {f : Nat → D} (h : j < n) : ixD (.lst ((List.range n).map f)) (nD j) = some (f j) := by
  rw [ixL (by simpa using h), List.getD_eq_getElem?_getD, List.getElem?_map, List.getElem?_range h]
  rfl
theorem rows_map {α : Type} (l : List α) (f : α → Nat) : D.lst (l.map fun a => nD (f a)) = rowsD (l.map f) := by
  unfold rowsD
  rw [List.map_map]
  rfl
theorem setR {l : List Nat} {j v : Nat} (h : j < l.length) : setD (rowsD l) (nD j) (nD v) = some (rowsD (l.set j v)) := by
  show (L2.ixN (l.map nD).length (j : Int)).map (fun j => D.lst ((l.map nD).set j (nD v))) = _
  have : L2.ixN (l.map nD).length (j : Int) = some j := by
    unfold L2.ixN
    rw [if_pos (by omega), if_pos (by rw [List.length_map]; omega)]
    rfl
  rw [this]
  show some (D.lst ((l.map nD).set j (nD v))) = some (D.lst ((l.set j v).map nD))
  rw [List.map_set]
theorem hnd_ok {G : Cfg} {call : Nat → List Sl → FR} {io : List Bool} {s r : SS} {c c' : Nat} {e e1 : Ev} (h1 : c' < G.exs.length) (h2 : isHd G c c' = true) (h : (exR G call io s).x e = .nx e1) : (exR G call io (.hnd c s r)).h c' e = .nx e1 := by
  show (if c' < G.exs.length then (if isHd G c c' = true then (match (exR G call io s).x e with
      | .er _ _ => Out.st
      | o => o) else (exR G call io r).h c' e) else .st) = _
  rw [if_pos h1, if_pos h2, h]
theorem bAbs (a : Nat) : biD .absF [nD a] = some (nD a, false) := by
  show some (D.int (if (a : Int) < 0 then -(a : Int) else (a : Int)), false) = _
  rw [if_neg (by omega)]
  rfl
end EV
/-! Functions told by their values: (n, text). -/
namespace EV
open PySem
def ch (b : Bool) : Nat := if b = true then 49 else 48
/-- the text of the values b, of the function -/
def tx (n : Nat) (b : Nat → Bool) : List Nat := (List.range (2 ^ n)).map fun p => ch (b p)
def fD (n : Nat) (b : Nat → Bool) : D := .tup [nD n, .str (tx n b)]
theorem tx_len (n : Nat) (b : Nat → Bool) : (tx n b).length = 2 ^ n := by unfold tx; simp
theorem p2le {n : Nat} (h : n ≤ 10) : 2 ^ n ≤ 1024 := Nat.pow_le_pow_right (n := 2) (by decide) h
theorem tx_at {n p : Nat} (b : Nat → Bool) (h : p < 2 ^ n) : (tx n b).getD p 0 = ch (b p) := by
  unfold tx
  rw [List.getD_eq_getElem?_getD, List.getElem?_map, List.getElem?_range h]
  rfl
theorem tx_congr {n : Nat} {b c : Nat → Bool} (h : ∀ p, p < 2 ^ n → b p = c p) : tx n b = tx n c := by
  unfold tx
  refine List.map_congr_left fun p hp => ?_
  rw [h p (by simpa using hp)]
theorem fD_congr {n : Nat} {b c : Nat → Bool} (h : ∀ p, p < 2 ^ n → b p = c p) : fD n b = fD n c := by
  unfold fD
  rw [tx_congr h]
theorem ixTx {n p : Nat} (b : Nat → Bool) (hn : n ≤ 10) (h : p < 2 ^ n) : ixD (.str (tx n b)) (nD p) = some (.str [ch (b p)]) := by
  have := p2le hn
  rw [ixS (by rw [tx_len]; exact h) (by rw [tx_len]; omega), tx_at b h]
theorem lenTx {n : Nat} (b : Nat → Bool) (hn : n ≤ 10) : biD .len [.str (tx n b)] = some (nD (2 ^ n), false) := by
  have := p2le hn
  rw [bLenS (by rw [tx_len]; omega), tx_len]
theorem ixF0 (n : Nat) (b : Nat → Bool) : ixD (fD n b) (nD 0) = some (nD n) := at0 _ _
theorem ixF1 (n : Nat) (b : Nat → Bool) : ixD (fD n b) (nD 1) = some (.str (tx n b)) := at1 _ _ _
theorem lenF (n : Nat) (b : Nat → Bool) : biD .len [fD n b] = some (nD 2, false) := rfl
theorem isiF (n : Nat) (b : Nat → Bool) (t : Ty) : isiD (fD n b) t = some (decide (t = .tuple)) := by cases t <;> rfl
theorem flatFn (n : Nat) (b : Nat → Bool) : (fD n b).flat = false := rfl
theorem mutFn (n : Nat) (b : Nat → Bool) : (fD n b).mutb = false := rfl
theorem ch1 (b : Bool) : ch b = 49 ↔ b = true := by cases b <;> decide
theorem ch0 (b : Bool) : ch b = 48 ↔ b = false := by cases b <;> decide
theorem chch (a b : Bool) : ch a = ch b ↔ a = b := by cases a <;> cases b <;> decide
theorem chIn (b : Bool) : ch b ∈ ([48, 49] : List Nat) := by cases b <;> decide
theorem dch1 (b : Bool) : decide (ch b = 49) = b := by cases b <;> rfl
theorem dch0 (b : Bool) : decide (ch b = 48) = !b := by cases b <;> rfl
theorem dchc (a b : Bool) : decide (ch a = ch b) = (a == b) := by cases a <;> cases b <;> rfl
theorem cEq1 (b : Bool) : cmpD .Eq (.str [ch b]) (.str [49]) = some b := by cases b <;> rfl
theorem cEq0 (b : Bool) : cmpD .Eq (.str [ch b]) (.str [48]) = some (!b) := by cases b <;> rfl
theorem cEqC (a b : Bool) : cmpD .Eq (.str [ch a]) (.str [ch b]) = some (a == b) := by cases a <;> cases b <;> rfl
theorem cNe1 (b : Bool) : cmpD .NotEq (.str [ch b]) (.str [49]) = some (!b) := by cases b <;> rfl
theorem cNe0 (b : Bool) : cmpD .NotEq (.str [ch b]) (.str [48]) = some b := by cases b <;> rfl
theorem cNeC (a b : Bool) : cmpD .NotEq (.str [ch a]) (.str [ch b]) = some (a != b) := by cases a <;> cases b <;> rfl
section
variable {G : Cfg}
def bIsBits : SS := (.seq (.cond (.or (.not (.isi (.var 0) .str)) (.cmp .NotEq (.bi .len (.cons (.var 0) .nil)) (.var 1))) (.seq (.ret (.lit (.bl false))) .skip) .skip) (.seq (.ret (.cmp .Eq (.comp (.var 2) (.nm 2) (.var 0) (.cmp .NotIn (.var 2) (.lit (.str [48, 49]))) [("sign", 2)]) (.lst .nil))) .skip))
theorem isbits_ok {f : Nat} {nm : Str} {N : List Str} (hf : G.fns[f]? = some ⟨nm, 2, N, [], bIsBits⟩) (hN : N.length = 3) (k n : Nat) (b : Nat → Bool) (hn : n ≤ 10) (h : 1 ≤ k) : (fnEval G k f [.sh (.str (tx n b)), .sh (nD (2 ^ n))]).res = .ok (.bl true) false := by
  obtain ⟨k, rfl⟩ : ∃ j, k = j + 1 := ⟨k - 1, by omega⟩
  rw [fn_at k [.sh (.str (tx n b)), .sh (nD (2 ^ n))] [.sh (.str (tx n b)), .sh (nD (2 ^ n)), .no] hf rfl (by rw [hN]; rfl)]
  have hl := lenTx b hn
  have p2 := p2le hn
  have c := comp_det (G := G) (call := fnEval G k) (el := .var 2) (it := .var 0) (c := .cmp .NotIn (.var 2) (.lit (.str [48, 49]))) (v := 2) (s := "sign") (e := [.sh (.str (tx n b)), .sh (nD (2 ^ n)), .no]) (e1 := [.sh (.str (tx n b)), .sh (nD (2 ^ n)), .no]) (tx n b) (fun c => .str [c]) (fun _ => false) (fun c => .str [c]) rfl (by rw [tx_len]; omega) (fun c hc => by
    have : c ∈ ([48, 49] : List Nat) := by
      unfold tx at hc
      obtain ⟨p, _, rfl⟩ := List.mem_map.mp hc
      exact chIn _
    have h2 : cmpD .NotIn (.str [c]) (.str [48, 49]) = some false := by
      rw [ninS, decide_eq_true this]
      rfl
    simp [h2, exR, evR, lineOk, sizeLine_eq, ofX, ofF, noR, R.out, R.bind, R.of, with1, with2, withs, Bor.res, Bor.frz, ress, frzs, bl2, dat, Sl.get?, Sl.frz, mkSl, Out.res, Res.put, mkArgs, ioAt, doCall, putIos, nd0, nd1, ndl, ndc, nAdd, nSub, nMul, nDiv, nMod, nShl, nShr, nAnd, nXor, nPow, sAdd, lAdd, rAdd, tAdd, lMul, sMul, cEqN, cEqS, cEqB, cNeN, cNeS, cNeB, cLt, cLe, cGt, cGe, cIs, cIsN, isNonN, isNonS, isNonL, isNonR, isNonT, isNonB, isNon0, inS, ninS, tN, tB, tL, tT, tR, t0, bLenL, bLenT, bLenR, bLenS, bIntN, bMin, bMax, bSum, bLstL, bLstT, bTupL, bTupT, ixL, ixT, ixR, ixS, isiN, isiR, flatN, flatR, mutN, mutR, itR, itL, itT, itS, cNilR, cNilN, cNilL, cNilM, meTyJ, inR, ninR, flat0, flatB, flatI, flatS, flatF, flatL, flatT, flatD, mut0, mutB, mutI, mutS, mutF, mutL, mutT, mutD, isi0, isiB, isiI, isiS, isiL, isiT, isiDc, muOk, muTyR, muTyL, muAR, muAL, rMul, setR, bAbs]) (fun c _ hc => by cases hc)
  have hf : (tx n b).filter (fun _ => false) = [] := by simp
  rw [hf] at c
  unfold bIsBits
  refine go_ff (Is _) (e1 := [.sh (.str (tx n b)), .sh (nD (2 ^ n)), .no]) (by simp [hl, exR, evR, lineOk, sizeLine_eq, ofX, ofF, noR, R.out, R.bind, R.of, with1, with2, withs, Bor.res, Bor.frz, ress, frzs, bl2, dat, Sl.get?, Sl.frz, mkSl, Out.res, Res.put, mkArgs, ioAt, doCall, putIos, nd0, nd1, ndl, ndc, nAdd, nSub, nMul, nDiv, nMod, nShl, nShr, nAnd, nXor, nPow, sAdd, lAdd, rAdd, tAdd, lMul, sMul, cEqN, cEqS, cEqB, cNeN, cNeS, cNeB, cLt, cLe, cGt, cGe, cIs, cIsN, isNonN, isNonS, isNonL, isNonR, isNonT, isNonB, isNon0, inS, ninS, tN, tB, tL, tT, tR, t0, bLenL, bLenT, bLenR, bLenS, bIntN, bMin, bMax, bSum, bLstL, bLstT, bTupL, bTupT, ixL, ixT, ixR, ixS, isiN, isiR, flatN, flatR, mutN, mutR, itR, itL, itT, itS, cNilR, cNilN, cNilL, cNilM, meTyJ, inR, ninR, flat0, flatB, flatI, flatS, flatF, flatL, flatT, flatD, mut0, mutB, mutI, mutS, mutF, mutL, mutT, mutD, isi0, isiB, isiI, isiS, isiL, isiT, isiDc, muOk, muTyR, muTyL, muAR, muAL, rMul, setR, bAbs]) ?_
  refine go_ret (Is _) (by intro i h; cases h) (comp_nil c rfl) ?_
  rfl
def bIsFun (q b t g : Nat) : SS := (.seq (.cond (.or (.not (.isi (.var 0) .tuple)) (.or (.cmp .NotEq (.bi .len (.cons (.var 0) .nil)) (.lit (.int 2))) (.not (.call q (.cons (.ix (.var 0) (.lit (.int 0))) (.cons (.lit (.int 0)) (.cons (.glo g) .nil))))))) (.seq (.ret (.lit (.bl false))) .skip) .skip) (.seq (.ret (.call b (.cons (.ix (.var 0) (.lit (.int 1))) (.cons (.call t (.cons (.ix (.var 0) (.lit (.int 0))) .nil)) .nil)))) .skip))
theorem isnum_nat {f : Nat} {nm : Str} {N : List Str} (hf : G.fns[f]? = some ⟨nm, 3, N, [], bIsNum⟩) (hN : N.length = 3) (k a b c : Nat) (h : 1 ≤ k) : (fnEval G k f [.sh (nD a), .sh (nD b), .sh (nD c)]).res = .ok (.bl (decide (b ≤ a) && decide (a ≤ c))) false := by
  have := isnum_ok hf hN k (nD a) (b : Int) (c : Int) rfl h
  have e : isNum (nD a) (b : Int) (c : Int) = (decide (b ≤ a) && decide (a ≤ c)) := by
    show (decide ((b : Int) ≤ (a : Int)) && decide ((a : Int) ≤ (c : Int))) = _
    congr 1 <;> exact decide_eq_decide.mpr (by omega)
  rw [e] at this
  exact this
theorem chknum_nat {f q c0 : Nat} {nm nm2 : Str} {N N2 : List Str} (hf : G.fns[f]? = some ⟨nm, 3, N, [], bCheckNum q c0⟩) (hN : N.length = 3) (hq : G.fns[q]? = some ⟨nm2, 3, N2, [], bIsNum⟩) (hN2 : N2.length = 3) (k a b c : Nat) (h : 2 ≤ k) (h1 : b ≤ a) (h2 : a ≤ c) : (fnEval G k f [.sh (nD a), .sh (nD b), .sh (nD c)]).res = .ok .non false := by
  have := checknum_ok hf hN hq hN2 k (nD a) (b : Int) (c : Int) rfl h
  have e : isNum (nD a) (b : Int) (c : Int) = true := by
    show (decide ((b : Int) ≤ (a : Int)) && decide ((a : Int) ≤ (c : Int))) = _
    simp [h1, h2]
  rw [if_pos e] at this
  exact this
theorem isfun_ok {f q b t g : Nat} {nm nm2 nm3 nm4 gn : Str} {N N2 N3 N4 : List Str} (hf : G.fns[f]? = some ⟨nm, 1, N, [], bIsFun q b t g⟩) (hN : N.length = 1) (hq : G.fns[q]? = some ⟨nm2, 3, N2, [], bIsNum⟩) (hN2 : N2.length = 3) (hb : G.fns[b]? = some ⟨nm3, 2, N3, [], bIsBits⟩) (hN3 : N3.length = 3)
    (ht : G.fns[t]? = some ⟨nm4, 1, N4, [], bTwoTo⟩) (hN4 : N4.length = 1) (hg : G.glos[g]? = some (gn, .int 10)) (k n : Nat) (B : Nat → Bool) (hn : n ≤ 10) (h : 2 ≤ k) : (fnEval G k f [.sh (fD n B)]).res = .ok (.bl true) false := by
  obtain ⟨k, rfl⟩ : ∃ j, k = j + 1 := ⟨k - 1, by omega⟩
  rw [fn_at k [.sh (fD n B)] [.sh (fD n B)] hf rfl (by rw [hN]; rfl)]
  have i := isnum_nat hq hN2 k n 0 10 (by omega)
  have bi := isbits_ok hb hN3 k n B hn (by omega)
  have tw : (fnEval G k t [.sh (nD n)]).res = .ok (nD (2 ^ n)) false := twoto_ok ht hN4 k n (by omega) (by omega)
  have g1 := fun e b0 b1 b2 => goP hq (fnEval G k) [b0, b1, b2] e rfl
  have g2 := fun e b0 b1 => goP hb (fnEval G k) [b0, b1] e rfl
  have g3 := fun e b0 => goP ht (fnEval G k) [b0] e rfl
  have e0 := ixF0 n B
  have e1 := ixF1 n B
  have e2 := lenF n B
  have e3 := isiF n B
  generalize fD n B = d at e0 e1 e2 e3 ⊢
  generalize tx n B = s at bi e1 ⊢
  generalize 2 ^ n = w at bi tw ⊢
  simp [bIsFun, g1, g2, g3, hg, i, hn, bi, tw, e0, e1, e2, e3, exR, evR, lineOk, sizeLine_eq, ofX, ofF, noR, R.out, R.bind, R.of, with1, with2, withs, Bor.res, Bor.frz, ress, frzs, bl2, dat, Sl.get?, Sl.frz, mkSl, Out.res, Res.put, mkArgs, ioAt, doCall, putIos, nd0, nd1, ndl, ndc, nAdd, nSub, nMul, nDiv, nMod, nShl, nShr, nAnd, nXor, nPow, sAdd, lAdd, rAdd, tAdd, lMul, sMul, cEqN, cEqS, cEqB, cNeN, cNeS, cNeB, cLt, cLe, cGt, cGe, cIs, cIsN, isNonN, isNonS, isNonL, isNonR, isNonT, isNonB, isNon0, inS, ninS, tN, tB, tL, tT, tR, t0, bLenL, bLenT, bLenR, bLenS, bIntN, bMin, bMax, bSum, bLstL, bLstT, bTupL, bTupT, ixL, ixT, ixR, ixS, isiN, isiR, flatN, flatR, mutN, mutR, itR, itL, itT, itS, cNilR, cNilN, cNilL, cNilM, meTyJ, inR, ninR, flat0, flatB, flatI, flatS, flatF, flatL, flatT, flatD, mut0, mutB, mutI, mutS, mutF, mutL, mutT, mutD, isi0, isiB, isiI, isiS, isiL, isiT, isiDc, muOk, muTyR, muTyL, muAR, muAL, rMul, setR, bAbs]
def bCheckFun (f c : Nat) : SS := (.seq (.cond (.not (.call f (.cons (.var 0) .nil))) (.seq (.raise c) .skip) .skip) .skip)
theorem chkfun_ok {c f q b t g x : Nat} {nm0 nm nm2 nm3 nm4 gn : Str} {N0 N N2 N3 N4 : List Str} (hc : G.fns[c]? = some ⟨nm0, 1, N0, [], bCheckFun f x⟩) (hN0 : N0.length = 1) (hf : G.fns[f]? = some ⟨nm, 1, N, [], bIsFun q b t g⟩) (hN : N.length = 1) (hq : G.fns[q]? = some ⟨nm2, 3, N2, [], bIsNum⟩) (hN2 : N2.length = 3) (hb : G.fns[b]? = some ⟨nm3, 2, N3, [], bIsBits⟩) (hN3 : N3.length = 3)
    (ht : G.fns[t]? = some ⟨nm4, 1, N4, [], bTwoTo⟩) (hN4 : N4.length = 1) (hg : G.glos[g]? = some (gn, .int 10)) (k n : Nat) (B : Nat → Bool) (hn : n ≤ 10) (h : 3 ≤ k) : (fnEval G k c [.sh (fD n B)]).res = .ok .non false := by
  obtain ⟨k, rfl⟩ : ∃ j, k = j + 1 := ⟨k - 1, by omega⟩
  rw [fn_at k [.sh (fD n B)] [.sh (fD n B)] hc rfl (by rw [hN0]; rfl)]
  have i := isfun_ok hf hN hq hN2 hb hN3 ht hN4 hg k n B hn (by omega)
  have g1 := fun e b0 => goP hf (fnEval G k) [b0] e rfl
  generalize fD n B = d at i ⊢
  simp [bCheckFun, g1, i, exR, evR, lineOk, sizeLine_eq, ofX, ofF, noR, R.out, R.bind, R.of, with1, with2, withs, Bor.res, Bor.frz, ress, frzs, bl2, dat, Sl.get?, Sl.frz, mkSl, Out.res, Res.put, mkArgs, ioAt, doCall, putIos, nd0, nd1, ndl, ndc, nAdd, nSub, nMul, nDiv, nMod, nShl, nShr, nAnd, nXor, nPow, sAdd, lAdd, rAdd, tAdd, lMul, sMul, cEqN, cEqS, cEqB, cNeN, cNeS, cNeB, cLt, cLe, cGt, cGe, cIs, cIsN, isNonN, isNonS, isNonL, isNonR, isNonT, isNonB, isNon0, inS, ninS, tN, tB, tL, tT, tR, t0, bLenL, bLenT, bLenR, bLenS, bIntN, bMin, bMax, bSum, bLstL, bLstT, bTupL, bTupT, ixL, ixT, ixR, ixS, isiN, isiR, flatN, flatR, mutN, mutR, itR, itL, itT, itS, cNilR, cNilN, cNilL, cNilM, meTyJ, inR, ninR, flat0, flatB, flatI, flatS, flatF, flatL, flatT, flatD, mut0, mutB, mutI, mutS, mutF, mutL, mutT, mutD, isi0, isiB, isiI, isiS, isiL, isiT, isiDc, muOk, muTyR, muTyL, muAR, muAL, rMul, setR, bAbs]
def cOf (s : Str) : SE := .comp (.ife (.var 2) (.lit (.str [49])) (.lit (.str [48]))) (.nm 2) (.var 1) .nop [(s, 2)]
def bOf (s : Str) : SS := (.seq (.ret (.tup (.cons (.var 0) (.cons (.me .join (.lit (.str [])) (.cons (cOf s) .nil)) .nil)))) .skip)
theorem cOf_b (s : Str) (call : Nat → List Sl → FR) (e : Ev) : (evR G call (cOf s)).b e = ((evR G call (cOf s)).f e).bind fun x e1 => .ok (.dat x.1) e1 := rfl
/-- function_of, _law_made -/
theorem of_ok {f : Nat} {nm s : Str} {N : List Str} (hf : G.fns[f]? = some ⟨nm, 2, N, [], bOf s⟩) (hN : N.length = 3) (k n : Nat) (V : Nat → D) (b : Nat → Bool) (hn : n ≤ 10) (hV : ∀ p, p < 2 ^ n → truD (V p) = some (b p)) (h : 1 ≤ k) : (fnEval G k f [.sh (nD n), .sh (.lst ((List.range (2 ^ n)).map V))]).res = .ok (fD n b) false := by
  obtain ⟨k, rfl⟩ : ∃ j, k = j + 1 := ⟨k - 1, by omega⟩
  rw [fn_at k [.sh (nD n), .sh (.lst ((List.range (2 ^ n)).map V))] [.sh (nD n), .sh (.lst ((List.range (2 ^ n)).map V)), .no] hf rfl (by rw [hN]; rfl)]
  have p2 := p2le hn
  have c : (evR G (fnEval G k) (cOf s)).f [.sh (nD n), .sh (.lst ((List.range (2 ^ n)).map V)), .no] = .ok (.lst ((List.range (2 ^ n)).map fun p => .str [ch (b p)]), true) [.sh (nD n), .sh (.lst ((List.range (2 ^ n)).map V)), .no] := by
    refine comp_all (List.range (2 ^ n)) V (fun p => .str [ch (b p)]) rfl (by simp; omega) (fun p hp => ⟨false, ?_⟩)
    have hp : p < 2 ^ n := by simpa using hp
    have t := hV p hp
    generalize V p = v at t ⊢
    cases hb : b p <;> rw [hb] at t <;> simp [t, ch, exR, evR, lineOk, sizeLine_eq, ofX, ofF, noR, R.out, R.bind, R.of, with1, with2, withs, Bor.res, Bor.frz, ress, frzs, bl2, dat, Sl.get?, Sl.frz, mkSl, Out.res, Res.put, mkArgs, ioAt, doCall, putIos, nd0, nd1, ndl, ndc, nAdd, nSub, nMul, nDiv, nMod, nShl, nShr, nAnd, nXor, nPow, sAdd, lAdd, rAdd, tAdd, lMul, sMul, cEqN, cEqS, cEqB, cNeN, cNeS, cNeB, cLt, cLe, cGt, cGe, cIs, cIsN, isNonN, isNonS, isNonL, isNonR, isNonT, isNonB, isNon0, inS, ninS, tN, tB, tL, tT, tR, t0, bLenL, bLenT, bLenR, bLenS, bIntN, bMin, bMax, bSum, bLstL, bLstT, bTupL, bTupT, ixL, ixT, ixR, ixS, isiN, isiR, flatN, flatR, mutN, mutR, itR, itL, itT, itS, cNilR, cNilN, cNilL, cNilM, meTyJ, inR, ninR, flat0, flatB, flatI, flatS, flatF, flatL, flatT, flatD, mut0, mutB, mutI, mutS, mutF, mutL, mutT, mutD, isi0, isiB, isiI, isiS, isiL, isiT, isiDc, muOk, muTyR, muTyL, muAR, muAL, rMul, setR, bAbs]
  have j := join_map (List.range (2 ^ n)) (fun p => ch (b p)) (by simp; omega)
  simp [bOf, cOf_b, c, j, fD, tx, exR, evR, lineOk, sizeLine_eq, ofX, ofF, noR, R.out, R.bind, R.of, with1, with2, withs, Bor.res, Bor.frz, ress, frzs, bl2, dat, Sl.get?, Sl.frz, mkSl, Out.res, Res.put, mkArgs, ioAt, doCall, putIos, nd0, nd1, ndl, ndc, nAdd, nSub, nMul, nDiv, nMod, nShl, nShr, nAnd, nXor, nPow, sAdd, lAdd, rAdd, tAdd, lMul, sMul, cEqN, cEqS, cEqB, cNeN, cNeS, cNeB, cLt, cLe, cGt, cGe, cIs, cIsN, isNonN, isNonS, isNonL, isNonR, isNonT, isNonB, isNon0, inS, ninS, tN, tB, tL, tT, tR, t0, bLenL, bLenT, bLenR, bLenS, bIntN, bMin, bMax, bSum, bLstL, bLstT, bTupL, bTupT, ixL, ixT, ixR, ixS, isiN, isiR, flatN, flatR, mutN, mutR, itR, itL, itT, itS, cNilR, cNilN, cNilL, cNilM, meTyJ, inR, ninR, flat0, flatB, flatI, flatS, flatF, flatL, flatT, flatD, mut0, mutB, mutI, mutS, mutF, mutL, mutT, mutD, isi0, isiB, isiI, isiS, isiL, isiT, isiDc, muOk, muTyR, muTyL, muAR, muAL, rMul, setR, bAbs]
/-! drawing -/
variable {m : Nat}
/-- items that draw once each -/
theorem comp_draws {call : Nat → List Sl → FR} {el it : SE} {v : Nat} {s : Str} {e0 base : Ev} (P : D → Prop) (l : List Nat) (at_ cnt : Nat) (hcnt : cnt ≤ 1000000) (hv : v ≠ 0)
    (hit : (evR G call it).i e0 = .ok ((List.range cnt).map nD) (base.set 0 (.ow (drD l at_))))
    (hel : ∀ a d, a < at_ + cnt → ∃ y fr, (evR G call el).f ((base.set 0 (.ow (drD l a))).set v (.sh d)) = .ok (y, fr) ((base.set 0 (.ow (drD l (a + 1)))).set v (.sh d)) ∧ P y) :
    ∃ ys, ys.length = cnt ∧ (∀ y ∈ ys, P y) ∧ (evR G call (.comp el (.nm v) it .nop [(s, v)])).f e0 = .ok (.lst ys, true) (base.set 0 (.ow (drD l (at_ + cnt)))) := by
  obtain ⟨ys, e', k1, k2, k3, x, k4⟩ := comp_some (vs := [v]) (tg := .nm v) (test := (evR G call .nop).t) (elt := (evR G call el).f) P (fun j e => ∃ x, e = (base.set 0 (.ow (drD l (at_ + j)))).set v x) (rngL 0 cnt) [] 0 (base.set 0 (.ow (drD l at_))) (by rw [rng_len, sizeLine_eq]; simp; omega) ⟨(base.set 0 (.ow (drD l at_))).getD v .no, (set_getD _ v).symm⟩ fun j d hd e ⟨x, hx⟩ => by
    subst hx
    have hlt : j < cnt := by
      have := (List.getElem?_eq_some_iff.mp hd).1
      rwa [rng_len] at this
    obtain ⟨y, fr, h1, h2⟩ := hel (at_ + j) d (by omega)
    rw [Nat.zero_add]
    refine ⟨_, _, (y, fr), _, ?_, rfl, h1, h2, .sh d, rfl⟩
    simp [tgD, wipeE]
  subst k4
  rw [rng_len] at k2 k1
  rw [Nat.zero_add] at k1
  refine ⟨ys, k2, k3, ?_⟩
  refine comp_ok (by rw [rng_range]; exact hit) k1 ?_
  show ((((base.set 0 (.ow (drD l (at_ + cnt)))).set v x).set v .no).set v ((base.set 0 (.ow (drD l at_))).getD v .no)) = _
  rw [List.set_set, List.set_set]
  have e1 : (base.set 0 (.ow (drD l at_))).getD v .no = (base.set 0 (.ow (drD l (at_ + cnt)))).getD v .no := by
    rw [List.getD_eq_getElem?_getD, List.getD_eq_getElem?_getD, List.getElem?_set_ne (by omega), List.getElem?_set_ne (by omega)]
  rw [e1, set_getD]
/-- a list of signs -/
theorem signs_of {n : Nat} {ys : List D} (hl : ys.length = 2 ^ n) (h : ∀ y ∈ ys, ∃ x, y = .str [ch x]) : ∃ b : Nat → Bool, ys = (List.range (2 ^ n)).map fun p => .str [ch (b p)] := by
  have key : ∀ ys : List D, (∀ y ∈ ys, ∃ x, y = .str [ch x]) → ∃ bs : List Bool, ys = bs.map fun x => .str [ch x] := by
    intro ys
    induction ys with
    | nil => exact fun _ => ⟨[], rfl⟩
    | cons y ys ih =>
      intro h
      obtain ⟨x, rfl⟩ := h y List.mem_cons_self
      obtain ⟨bs, rfl⟩ := ih fun z hz => h z (List.mem_cons_of_mem _ hz)
      exact ⟨x :: bs, rfl⟩
  obtain ⟨bs, rfl⟩ := key ys h
  rw [List.length_map] at hl
  refine ⟨fun p => bs.getD p false, ?_⟩
  refine List.ext_getElem (by simp [hl]) fun i h1 h2 => ?_
  have hi : i < bs.length := by simpa using h1
  rw [List.getElem_map, List.getElem_map, List.getElem_range]
  show D.str [ch bs[i]] = D.str [ch (bs.getD i false)]
  rw [List.getD_eq_getElem?_getD, List.getElem?_eq_getElem hi]
  rfl
end
end EV
/-! A drawn function: _law_function of the laws that draw below a bound. -/
namespace EV
open PySem
def cLF0 (d : Nat) : SE := .comp (.bi .strF (.cons (.call d (.cons (.var 0) (.cons (.lit (.int 2)) .nil))) .nil)) (.nm 9) (.rng1 (.var 2)) .nop [("p", 9)]
def cLF1 (d : Nat) : SE := .comp (.call d (.cons (.var 0) (.cons (.var 2) .nil))) (.nm 10) (.rng1 (.call d (.cons (.var 0) (.cons (.lit (.int 5)) .nil)))) .nop [("k", 10)]
def cLF2 : SE := .comp (.ife (.cmp .In (.var 9) (.var 6)) (.lit (.str [49])) (.lit (.str [48]))) (.nm 9) (.rng1 (.var 2)) .nop [("p", 9)]
def cLF3 (d : Nat) : SE := .comp (.bin .Sub (.call d (.cons (.var 0) (.cons (.lit (.int 5)) .nil))) (.lit (.int 1))) (.nm 10) (.rng1 (.var 1)) .nop [("k", 10)]
def cLF4 : SE := .comp (.ix (.var 7) (.var 10)) (.nm 10) (.rng1 (.var 1)) (.cmp .Eq (.bin .BitAnd (.bin .RShift (.var 9) (.var 10)) (.lit (.int 1))) (.lit (.int 1))) [("k", 10)]
def cLF5 : SE := .comp (.ife (.cmp .GtE (.bi .sum (.cons cLF4 .nil)) (.var 8)) (.lit (.str [49])) (.lit (.str [48]))) (.nm 9) (.rng1 (.var 2)) .nop [("p", 9)]
def cLF6 (d : Nat) : SE := .comp (.call d (.cons (.var 0) (.cons (.lit (.int 2)) .nil))) (.nm 9) (.rng1 (.var 2)) .nop [("p", 9)]
def cLF7 : SE := .comp (.bi .strF (.cons (.ix (.var 5) (.bin .BitAnd (.var 9) (.var 4))) .nil)) (.nm 9) (.rng1 (.var 2)) .nop [("p", 9)]
def rLF (c : SE) : SS := .ret (.tup (.cons (.var 1) (.cons (.me .join (.lit (.str [])) (.cons c .nil)) .nil)))
def bLawFun (d : Nat) : SS := (.seq (.asg 2 (.bin .LShift (.lit (.int 1)) (.var 1))) (.seq (.asg 3 (.call d (.cons (.var 0) (.cons (.lit (.int 4)) .nil)))) (.seq (.cond (.cmp .Eq (.var 3) (.lit (.int 0))) (.seq (rLF (cLF0 d)) .skip) .skip) (.seq (.cond (.cmp .Eq (.var 3) (.lit (.int 1))) (.seq (.asg 6 (cLF1 d)) (.seq (rLF cLF2) .skip)) .skip) (.seq (.cond (.cmp .Eq (.var 3) (.lit (.int 2))) (.seq (.asg 7 (cLF3 d)) (.seq (.asg 8 (.call d (.cons (.var 0) (.cons (.lit (.int 5)) .nil)))) (.seq (rLF cLF5) .skip))) .skip) (.seq (.asg 4 (.call d (.cons (.var 0) (.cons (.var 2) .nil)))) (.seq (.asg 5 (cLF6 d)) (.seq (rLF cLF7) .skip))))))))
theorem str01 (b : Bool) : biD .strF [nD (if b = true then 1 else 0)] = some (.str [ch b], false) := by
  cases b
  · show (if decide ((0 : Int).natAbs.log2 < 1920) = true then some (D.str (codesOf 0), false) else none) = _
    rw [show codesOf 0 = [48] by decide +kernel]
    rfl
  · show (if decide ((1 : Int).natAbs.log2 < 1920) = true then some (D.str (codesOf 1), false) else none) = _
    rw [show codesOf 1 = [49] by decide +kernel]
    rfl
theorem strN {v : Nat} (h : v < 2) : ∃ x, biD .strF [nD v] = some (.str [ch x], false) := by
  have : v = 0 ∨ v = 1 := by omega
  rcases this with rfl | rfl
  · exact ⟨false, str01 false⟩
  · exact ⟨true, str01 true⟩
theorem rows_some {ys : List D} {q : Nat} (h : ∀ y ∈ ys, ∃ w, y = nD w ∧ w < q) : ∃ ws : List Nat, ys = ws.map nD ∧ ∀ w ∈ ws, w < q := by
  induction ys with
  | nil => exact ⟨[], rfl, fun w hw => nomatch hw⟩
  | cons y ys ih =>
    obtain ⟨w, rfl, hw⟩ := h y List.mem_cons_self
    obtain ⟨ws, rfl, h2⟩ := ih fun z hz => h z (List.mem_cons_of_mem _ hz)
    refine ⟨w :: ws, rfl, fun x hx => ?_⟩
    rcases List.mem_cons.mp hx with rfl | hx
    · exact hw
    · exact h2 x hx
theorem ints_some {ys : List D} (h : ∀ y ∈ ys, ∃ i : Int, y = .int i) : ∃ is : List Int, ys = is.map D.int := by
  induction ys with
  | nil => exact ⟨[], rfl⟩
  | cons y ys ih =>
    obtain ⟨w, rfl⟩ := h y List.mem_cons_self
    obtain ⟨ws, rfl⟩ := ih fun z hz => h z (List.mem_cons_of_mem _ hz)
    exact ⟨w :: ws, rfl⟩
section
variable {G : Cfg} {m d : Nat}
theorem rLF_ok {call : Nat → List Sl → FR} {io : List Bool} {c : SE} {e e1 : Ev} {n : Nat} {b : Nat → Bool} (hn : n ≤ 10) (h1 : e.getD 1 .no = .sh (nD n)) (hb : ∀ x, (evR G call c).b x = ((evR G call c).f x).bind fun x e1 => .ok (.dat x.1) e1) (h : (evR G call c).f e = .ok (.lst ((List.range (2 ^ n)).map fun p => .str [ch (b p)]), true) e1) :
    (exR G call io (.seq (rLF c) .skip)).x e = .rt (fD n b) false e1 := by
  have p2 := p2le hn
  have j := join_map (List.range (2 ^ n)) (fun p => ch (b p)) (by simp; omega)
  have hv : (evR G call (.var 1)).b e = .ok (.dat (nD n)) e := by
    show (match e.getD 1 .no with
      | .no => R.st
      | .sh d => R.ok (Bor.dat d) e
      | .ow _ => R.ok (Bor.slot 1) e) = _
    rw [h1]
  have hj : (evR G call (.me .join (.lit (.str [])) (.cons c .nil))).b e = .ok (.dat (.str (tx n b))) e1 := by
    simp [hb, h, j, tx, exR, evR, lineOk, sizeLine_eq, ofX, ofF, noR, R.out, R.bind, R.of, with1, with2, withs, Bor.res, Bor.frz, ress, frzs, bl2, dat, Sl.get?, Sl.frz, mkSl, Out.res, Res.put, mkArgs, ioAt, doCall, putIos, nd0, nd1, ndl, ndc, nAdd, nSub, nMul, nDiv, nMod, nShl, nShr, nAnd, nXor, nPow, sAdd, lAdd, rAdd, tAdd, lMul, sMul, cEqN, cEqS, cEqB, cNeN, cNeS, cNeB, cLt, cLe, cGt, cGe, cIs, cIsN, isNonN, isNonS, isNonL, isNonR, isNonT, isNonB, isNon0, inS, ninS, tN, tB, tL, tT, tR, t0, bLenL, bLenT, bLenR, bLenS, bIntN, bMin, bMax, bSum, bLstL, bLstT, bTupL, bTupT, ixL, ixT, ixR, ixS, isiN, isiR, flatN, flatR, mutN, mutR, itR, itL, itT, itS, cNilR, cNilN, cNilL, cNilM, meTyJ, inR, ninR, flat0, flatB, flatI, flatS, flatF, flatL, flatT, flatD, mut0, mutB, mutI, mutS, mutF, mutL, mutT, mutD, isi0, isiB, isiI, isiS, isiL, isiT, isiDc, muOk, muTyR, muTyL, muAR, muAL, rMul, setR, bAbs]
  unfold rLF
  rw [seq_rt (ret_f (x := (fD n b, false)) (e1 := e1) (by intro i h; cases h) (tup_f (cons_bs hv (cons_bs hj nil_bs)) rfl (by simp [sizeLine_eq])))]
theorem lawfun_ok {f : Nat} {nm : Str} {N : List Str} (hm : G.fns[m]? = some fMixed) (hd : G.fns[d]? = some (fDraw2 m)) (hf : G.fns[f]? = some ⟨nm, 2, N, [true, false], bLawFun d⟩) (hN : N.length = 11) (k : Nat) (l : List Nat) (at_ n : Nat) (hs : small l) (hl : l.length ≤ 4000) (ha : at_ ≤ 100000) (hn : n ≤ 10) (h : 3 ≤ k) :
    ∃ (b : Nat → Bool) (a' : Nat) (e : Ev), a' ≤ at_ + 2 ^ n + n + 10 ∧ fnEval G k f [.ow (drD l at_), .sh (nD n)] = .ok (fD n b) false e ∧ e.getD 0 .no = .ow (drD l a') := by
  obtain ⟨k, rfl⟩ : ∃ j, k = j + 1 := ⟨k - 1, by omega⟩
  have p2 := p2le hn
  have p1 : 0 < 2 ^ n := Nat.pow_pos (by decide)
  rw [fn_step (fi := ⟨nm, 2, N, [true, false], bLawFun d⟩) k _ hf rfl]
  
  have start : [Sl.ow (drD l at_), .sh (nD n)] ++ List.replicate (N.length - [Sl.ow (drD l at_), Sl.sh (nD n)].length) .no = [.ow (drD l at_), .sh (nD n), .no, .no, .no, .no, .no, .no, .no, .no, .no] := by rw [hN]; rfl
  show ∃ (b : Nat → Bool) (a' : Nat) (e : Ev), a' ≤ at_ + 2 ^ n + n + 10 ∧ ((exR G (fnEval G k) [true, false] (bLawFun d)).x ([Sl.ow (drD l at_), .sh (nD n)] ++ List.replicate (N.length - [Sl.ow (drD l at_), Sl.sh (nD n)].length) .no)).fr = .ok (fD n b) false e ∧ e.getD 0 .no = .ow (drD l a')
  rw [start]
  clear start
  suffices hh : ∃ (b : Nat → Bool) (a' : Nat) (e : Ev), a' ≤ at_ + 2 ^ n + n + 10 ∧ (exR G (fnEval G k) [true, false] (bLawFun d)).x [.ow (drD l at_), .sh (nD n), .no, .no, .no, .no, .no, .no, .no, .no, .no] = .rt (fD n b) false e ∧ e.getD 0 .no = .ow (drD l a') by
    obtain ⟨b, a', e, q1, q2, q3⟩ := hh
    exact ⟨b, a', e, q1, by rw [q2]; rfl, q3⟩
  have sh := nShl (b := n) 1 (by decide) (by omega)
  rw [Nat.one_mul] at sh
  have e1 : (exR G (fnEval G k) [true, false] (.asg 2 (.bin .LShift (.lit (.int 1)) (.var 1)))).x [.ow (drD l at_), .sh (nD n), .no, .no, .no, .no, .no, .no, .no, .no, .no] = .nx [.ow (drD l at_), .sh (nD n), .sh (nD (2 ^ n)), .no, .no, .no, .no, .no, .no, .no, .no] := by
    rw [asg_nx (x := (nD (2 ^ n), false)) (e1 := [.ow (drD l at_), .sh (nD n), .no, .no, .no, .no, .no, .no, .no, .no, .no]) (by
      show R.of (binD .LShift (nD 1) (nD n)) _ = _
      rw [sh]
      rfl) rfl]
    rfl
  obtain ⟨pick, hp, g⟩ := draw2_call hm hd k 0 l at_ 4 hs hl (by omega) (by decide) (by omega) (.lit (.int 4)) [.ow (drD l at_), .sh (nD n), .sh (nD (2 ^ n)), .no, .no, .no, .no, .no, .no, .no, .no] rfl rfl
  
  unfold bLawFun
  rw [seq_nx e1, seq_nx (asg_nx g rfl)]
  show ∃ (b : Nat → Bool) (a' : Nat) (e : Ev), _ ∧ (exR G (fnEval G k) [true, false] _).x [.ow (drD l (at_ + 1)), .sh (nD n), .sh (nD (2 ^ n)), .sh (nD pick), .no, .no, .no, .no, .no, .no, .no] = _ ∧ _
  -- one drawn sign
  have sgn : ∀ (a : Nat) (x : D), a < at_ + 1 + 2 ^ n → ∃ y fr, (evR G (fnEval G k) (.bi .strF (.cons (.call d (.cons (.var 0) (.cons (.lit (.int 2)) .nil))) .nil))).f [.ow (drD l a), .sh (nD n), .sh (nD (2 ^ n)), .sh (nD pick), .no, .no, .no, .no, .no, .sh x, .no] = .ok (y, fr) [.ow (drD l (a + 1)), .sh (nD n), .sh (nD (2 ^ n)), .sh (nD pick), .no, .no, .no, .no, .no, .sh x, .no] ∧ ∃ b, y = .str [ch b] := fun a x hax => by
    obtain ⟨v, hv, g⟩ := draw2_call hm hd k 0 l a 2 hs hl (by omega) (by decide) (by omega) (.lit (.int 2)) [.ow (drD l a), .sh (nD n), .sh (nD (2 ^ n)), .sh (nD pick), .no, .no, .no, .no, .no, .sh x, .no] rfl rfl
    obtain ⟨b, hb⟩ := strN hv
    exact ⟨.str [ch b], false, bi_f (cons_bs (call_b g) nil_bs) rfl hb, b, rfl⟩
  by_cases c0 : pick = 0
  · obtain ⟨ys, h1, h2, h3⟩ := comp_draws (G := G) (call := fnEval G k) (s := "p") (e0 := [.ow (drD l (at_ + 1)), .sh (nD n), .sh (nD (2 ^ n)), .sh (nD pick), .no, .no, .no, .no, .no, .no, .no]) (base := [.ow (drD l (at_ + 1)), .sh (nD n), .sh (nD (2 ^ n)), .sh (nD pick), .no, .no, .no, .no, .no, .no, .no]) (fun y => ∃ b, y = .str [ch b]) l (at_ + 1) (2 ^ n) (by omega) (show (9 : Nat) ≠ 0 by decide) (rng1_i (fr := false) (a := .var 2) rfl (by omega)) sgn
    obtain ⟨b, rfl⟩ := signs_of h1 h2
    refine ⟨b, at_ + 1 + 2 ^ n, [.ow (drD l (at_ + 1 + 2 ^ n)), .sh (nD n), .sh (nD (2 ^ n)), .sh (nD pick), .no, .no, .no, .no, .no, .no, .no], by omega, ?_, rfl⟩
    exact seq_rt ((cond_tt (e1 := [.ow (drD l (at_ + 1)), .sh (nD n), .sh (nD (2 ^ n)), .sh (nD pick), .no, .no, .no, .no, .no, .no, .no]) (by simp [c0, exR, evR, lineOk, sizeLine_eq, ofX, ofF, noR, R.out, R.bind, R.of, with1, with2, withs, Bor.res, Bor.frz, ress, frzs, bl2, dat, Sl.get?, Sl.frz, mkSl, Out.res, Res.put, mkArgs, ioAt, doCall, putIos, nd0, nd1, ndl, ndc, nAdd, nSub, nMul, nDiv, nMod, nShl, nShr, nAnd, nXor, nPow, sAdd, lAdd, rAdd, tAdd, lMul, sMul, cEqN, cEqS, cEqB, cNeN, cNeS, cNeB, cLt, cLe, cGt, cGe, cIs, cIsN, isNonN, isNonS, isNonL, isNonR, isNonT, isNonB, isNon0, inS, ninS, tN, tB, tL, tT, tR, t0, bLenL, bLenT, bLenR, bLenS, bIntN, bMin, bMax, bSum, bLstL, bLstT, bTupL, bTupT, ixL, ixT, ixR, ixS, isiN, isiR, flatN, flatR, mutN, mutR, itR, itL, itT, itS, cNilR, cNilN, cNilL, cNilM, meTyJ, inR, ninR, flat0, flatB, flatI, flatS, flatF, flatL, flatT, flatD, mut0, mutB, mutI, mutS, mutF, mutL, mutT, mutD, isi0, isiB, isiI, isiS, isiL, isiT, isiDc, muOk, muTyR, muTyL, muAR, muAL, rMul, setR, bAbs])).trans (rLF_ok (c := cLF0 d) hn rfl (fun _ => rfl) h3))
  have f0 : (evR G (fnEval G k) (.cmp .Eq (.var 3) (.lit (.int 0)))).t [.ow (drD l (at_ + 1)), .sh (nD n), .sh (nD (2 ^ n)), .sh (nD pick), .no, .no, .no, .no, .no, .no, .no] = .ok false [.ow (drD l (at_ + 1)), .sh (nD n), .sh (nD (2 ^ n)), .sh (nD pick), .no, .no, .no, .no, .no, .no, .no] := by simp [c0, exR, evR, lineOk, sizeLine_eq, ofX, ofF, noR, R.out, R.bind, R.of, with1, with2, withs, Bor.res, Bor.frz, ress, frzs, bl2, dat, Sl.get?, Sl.frz, mkSl, Out.res, Res.put, mkArgs, ioAt, doCall, putIos, nd0, nd1, ndl, ndc, nAdd, nSub, nMul, nDiv, nMod, nShl, nShr, nAnd, nXor, nPow, sAdd, lAdd, rAdd, tAdd, lMul, sMul, cEqN, cEqS, cEqB, cNeN, cNeS, cNeB, cLt, cLe, cGt, cGe, cIs, cIsN, isNonN, isNonS, isNonL, isNonR, isNonT, isNonB, isNon0, inS, ninS, tN, tB, tL, tT, tR, t0, bLenL, bLenT, bLenR, bLenS, bIntN, bMin, bMax, bSum, bLstL, bLstT, bTupL, bTupT, ixL, ixT, ixR, ixS, isiN, isiR, flatN, flatR, mutN, mutR, itR, itL, itT, itS, cNilR, cNilN, cNilL, cNilM, meTyJ, inR, ninR, flat0, flatB, flatI, flatS, flatF, flatL, flatT, flatD, mut0, mutB, mutI, mutS, mutF, mutL, mutT, mutD, isi0, isiB, isiI, isiS, isiL, isiT, isiDc, muOk, muTyR, muTyL, muAR, muAL, rMul, setR, bAbs]
  rw [seq_nx ((cond_ff f0).trans skip_nx)]
  by_cases c1 : pick = 1
  · obtain ⟨cnt, hc, g2⟩ := draw2_call hm hd k 0 l (at_ + 1) 5 hs hl (by omega) (by decide) (by omega) (.lit (.int 5)) [.ow (drD l (at_ + 1)), .sh (nD n), .sh (nD (2 ^ n)), .sh (nD pick), .no, .no, .no, .no, .no, .no, .no] rfl rfl
    obtain ⟨ys, h1, h2, h3⟩ := comp_draws (G := G) (call := fnEval G k) (el := .call d (.cons (.var 0) (.cons (.var 2) .nil))) (it := .rng1 (.call d (.cons (.var 0) (.cons (.lit (.int 5)) .nil)))) (s := "k") (e0 := [.ow (drD l (at_ + 1)), .sh (nD n), .sh (nD (2 ^ n)), .sh (nD pick), .no, .no, .no, .no, .no, .no, .no]) (base := [.ow (drD l (at_ + 1)), .sh (nD n), .sh (nD (2 ^ n)), .sh (nD pick), .no, .no, .no, .no, .no, .no, .no]) (fun y => ∃ w, y = nD w ∧ w < 2 ^ n) l (at_ + 1 + 1) cnt (by omega) (show (10 : Nat) ≠ 0 by decide) (rng1_i g2 (by omega)) fun a x hax => by
      obtain ⟨v, hv, g⟩ := draw2_call hm hd k 0 l a (2 ^ n) hs hl (by omega) p1 (by omega) (.var 2) [.ow (drD l a), .sh (nD n), .sh (nD (2 ^ n)), .sh (nD pick), .no, .no, .no, .no, .no, .no, .sh x] rfl rfl
      exact ⟨nD v, false, g, v, rfl, hv⟩
    obtain ⟨ws, rfl, _⟩ := rows_some h2
    have c2 : (evR G (fnEval G k) cLF2).f [.ow (drD l (at_ + 1 + 1 + cnt)), .sh (nD n), .sh (nD (2 ^ n)), .sh (nD pick), .no, .no, .ow (rowsD ws), .no, .no, .no, .no] = .ok (.lst ((List.range (2 ^ n)).map fun p => .str [ch (decide (p ∈ ws))]), true) [.ow (drD l (at_ + 1 + 1 + cnt)), .sh (nD n), .sh (nD (2 ^ n)), .sh (nD pick), .no, .no, .ow (rowsD ws), .no, .no, .no, .no] := by
      refine comp_all (List.range (2 ^ n)) nD (fun p => .str [ch (decide (p ∈ ws))]) (rng1_i (fr := false) (a := .var 2) rfl (by omega)) (by simp; omega) (fun p _ => ⟨false, ?_⟩)
      by_cases hw : p ∈ ws <;> simp [hw, ch, exR, evR, lineOk, sizeLine_eq, ofX, ofF, noR, R.out, R.bind, R.of, with1, with2, withs, Bor.res, Bor.frz, ress, frzs, bl2, dat, Sl.get?, Sl.frz, mkSl, Out.res, Res.put, mkArgs, ioAt, doCall, putIos, nd0, nd1, ndl, ndc, nAdd, nSub, nMul, nDiv, nMod, nShl, nShr, nAnd, nXor, nPow, sAdd, lAdd, rAdd, tAdd, lMul, sMul, cEqN, cEqS, cEqB, cNeN, cNeS, cNeB, cLt, cLe, cGt, cGe, cIs, cIsN, isNonN, isNonS, isNonL, isNonR, isNonT, isNonB, isNon0, inS, ninS, tN, tB, tL, tT, tR, t0, bLenL, bLenT, bLenR, bLenS, bIntN, bMin, bMax, bSum, bLstL, bLstT, bTupL, bTupT, ixL, ixT, ixR, ixS, isiN, isiR, flatN, flatR, mutN, mutR, itR, itL, itT, itS, cNilR, cNilN, cNilL, cNilM, meTyJ, inR, ninR, flat0, flatB, flatI, flatS, flatF, flatL, flatT, flatD, mut0, mutB, mutI, mutS, mutF, mutL, mutT, mutD, isi0, isiB, isiI, isiS, isiL, isiT, isiDc, muOk, muTyR, muTyL, muAR, muAL, rMul, setR, bAbs]
    refine ⟨fun p => decide (p ∈ ws), at_ + 1 + 1 + cnt, [.ow (drD l (at_ + 1 + 1 + cnt)), .sh (nD n), .sh (nD (2 ^ n)), .sh (nD pick), .no, .no, .ow (rowsD ws), .no, .no, .no, .no], by omega, ?_, rfl⟩
    refine seq_rt ((cond_tt (e1 := [.ow (drD l (at_ + 1)), .sh (nD n), .sh (nD (2 ^ n)), .sh (nD pick), .no, .no, .no, .no, .no, .no, .no]) (by simp [c1, exR, evR, lineOk, sizeLine_eq, ofX, ofF, noR, R.out, R.bind, R.of, with1, with2, withs, Bor.res, Bor.frz, ress, frzs, bl2, dat, Sl.get?, Sl.frz, mkSl, Out.res, Res.put, mkArgs, ioAt, doCall, putIos, nd0, nd1, ndl, ndc, nAdd, nSub, nMul, nDiv, nMod, nShl, nShr, nAnd, nXor, nPow, sAdd, lAdd, rAdd, tAdd, lMul, sMul, cEqN, cEqS, cEqB, cNeN, cNeS, cNeB, cLt, cLe, cGt, cGe, cIs, cIsN, isNonN, isNonS, isNonL, isNonR, isNonT, isNonB, isNon0, inS, ninS, tN, tB, tL, tT, tR, t0, bLenL, bLenT, bLenR, bLenS, bIntN, bMin, bMax, bSum, bLstL, bLstT, bTupL, bTupT, ixL, ixT, ixR, ixS, isiN, isiR, flatN, flatR, mutN, mutR, itR, itL, itT, itS, cNilR, cNilN, cNilL, cNilM, meTyJ, inR, ninR, flat0, flatB, flatI, flatS, flatF, flatL, flatT, flatD, mut0, mutB, mutI, mutS, mutF, mutL, mutT, mutD, isi0, isiB, isiI, isiS, isiL, isiT, isiDc, muOk, muTyR, muTyL, muAR, muAL, rMul, setR, bAbs])).trans ?_)
    exact (seq_nx (asg_nx (a := cLF1 d) h3 rfl)).trans (rLF_ok (c := cLF2) hn rfl (fun _ => rfl) c2)
  have f1 : (evR G (fnEval G k) (.cmp .Eq (.var 3) (.lit (.int 1)))).t [.ow (drD l (at_ + 1)), .sh (nD n), .sh (nD (2 ^ n)), .sh (nD pick), .no, .no, .no, .no, .no, .no, .no] = .ok false [.ow (drD l (at_ + 1)), .sh (nD n), .sh (nD (2 ^ n)), .sh (nD pick), .no, .no, .no, .no, .no, .no, .no] := by simp [c1, exR, evR, lineOk, sizeLine_eq, ofX, ofF, noR, R.out, R.bind, R.of, with1, with2, withs, Bor.res, Bor.frz, ress, frzs, bl2, dat, Sl.get?, Sl.frz, mkSl, Out.res, Res.put, mkArgs, ioAt, doCall, putIos, nd0, nd1, ndl, ndc, nAdd, nSub, nMul, nDiv, nMod, nShl, nShr, nAnd, nXor, nPow, sAdd, lAdd, rAdd, tAdd, lMul, sMul, cEqN, cEqS, cEqB, cNeN, cNeS, cNeB, cLt, cLe, cGt, cGe, cIs, cIsN, isNonN, isNonS, isNonL, isNonR, isNonT, isNonB, isNon0, inS, ninS, tN, tB, tL, tT, tR, t0, bLenL, bLenT, bLenR, bLenS, bIntN, bMin, bMax, bSum, bLstL, bLstT, bTupL, bTupT, ixL, ixT, ixR, ixS, isiN, isiR, flatN, flatR, mutN, mutR, itR, itL, itT, itS, cNilR, cNilN, cNilL, cNilM, meTyJ, inR, ninR, flat0, flatB, flatI, flatS, flatF, flatL, flatT, flatD, mut0, mutB, mutI, mutS, mutF, mutL, mutT, mutD, isi0, isiB, isiI, isiS, isiL, isiT, isiDc, muOk, muTyR, muTyL, muAR, muAL, rMul, setR, bAbs]
  rw [seq_nx ((cond_ff f1).trans skip_nx)]
  by_cases c2 : pick = 2
  · obtain ⟨ys, h1, h2, h3⟩ := comp_draws (G := G) (call := fnEval G k) (el := .bin .Sub (.call d (.cons (.var 0) (.cons (.lit (.int 5)) .nil))) (.lit (.int 1))) (it := .rng1 (.var 1)) (s := "k") (e0 := [.ow (drD l (at_ + 1)), .sh (nD n), .sh (nD (2 ^ n)), .sh (nD pick), .no, .no, .no, .no, .no, .no, .no]) (base := [.ow (drD l (at_ + 1)), .sh (nD n), .sh (nD (2 ^ n)), .sh (nD pick), .no, .no, .no, .no, .no, .no, .no]) (fun y => ∃ i : Int, y = .int i) l (at_ + 1) n (by omega) (show (10 : Nat) ≠ 0 by decide) (rng1_i (fr := false) (a := .var 1) rfl (by omega)) fun a x hax => by
      obtain ⟨v, hv, g⟩ := draw2_call hm hd k 0 l a 5 hs hl (by omega) (by decide) (by omega) (.lit (.int 5)) [.ow (drD l a), .sh (nD n), .sh (nD (2 ^ n)), .sh (nD pick), .no, .no, .no, .no, .no, .no, .sh x] rfl rfl
      have gb := call_b g
      refine ⟨.int ((v : Int) - 1), false, (show (evR G (fnEval G k) (.bin .Sub (.call d (.cons (.var 0) (.cons (.lit (.int 5)) .nil))) (.lit (.int 1)))).f [.ow (drD l a), .sh (nD n), .sh (nD (2 ^ n)), .sh (nD pick), .no, .no, .no, .no, .no, .no, .sh x] = .ok (.int ((v : Int) - 1), false) [.ow (drD l (a + 1)), .sh (nD n), .sh (nD (2 ^ n)), .sh (nD pick), .no, .no, .no, .no, .no, .no, .sh x] from ?_), _, rfl⟩
      show with2 (evR G (fnEval G k) (.call d (.cons (.var 0) (.cons (.lit (.int 5)) .nil)))) (evR G (fnEval G k) (.lit (.int 1))) _ _ = _
      unfold with2
      rw [gb]
      rfl
    obtain ⟨is, rfl⟩ := ints_some h2
    rw [List.length_map] at h1
    obtain ⟨bd, hbd, g2⟩ := draw2_call hm hd k 0 l (at_ + 1 + n) 5 hs hl (by omega) (by decide) (by omega) (.lit (.int 5)) [.ow (drD l (at_ + 1 + n)), .sh (nD n), .sh (nD (2 ^ n)), .sh (nD pick), .no, .no, .no, .ow (.lst (is.map D.int)), .no, .no, .no] rfl rfl
    have c4 : ∀ p : Nat, (evR G (fnEval G k) cLF4).f [.ow (drD l (at_ + 1 + n + 1)), .sh (nD n), .sh (nD (2 ^ n)), .sh (nD pick), .no, .no, .no, .ow (.lst (is.map D.int)), .sh (nD bd), .sh (nD p), .no] = .ok (.lst ((((List.range n).filter fun j => decide (p / 2 ^ j % 2 = 1)).map fun j => is.getD j 0).map D.int), true) [.ow (drD l (at_ + 1 + n + 1)), .sh (nD n), .sh (nD (2 ^ n)), .sh (nD pick), .no, .no, .no, .ow (.lst (is.map D.int)), .sh (nD bd), .sh (nD p), .no] := fun p => by
      rw [List.map_map]
      refine comp_det (List.range n) nD (fun j => decide (p / 2 ^ j % 2 = 1)) (fun j => D.int (is.getD j 0)) (rng1_i (fr := false) (a := .var 1) rfl (by omega)) (by simp; omega) (fun j _ => ?_) (fun j hj _ => ⟨false, ?_⟩)
      · simp [and1, exR, evR, lineOk, sizeLine_eq, ofX, ofF, noR, R.out, R.bind, R.of, with1, with2, withs, Bor.res, Bor.frz, ress, frzs, bl2, dat, Sl.get?, Sl.frz, mkSl, Out.res, Res.put, mkArgs, ioAt, doCall, putIos, nd0, nd1, ndl, ndc, nAdd, nSub, nMul, nDiv, nMod, nShl, nShr, nAnd, nXor, nPow, sAdd, lAdd, rAdd, tAdd, lMul, sMul, cEqN, cEqS, cEqB, cNeN, cNeS, cNeB, cLt, cLe, cGt, cGe, cIs, cIsN, isNonN, isNonS, isNonL, isNonR, isNonT, isNonB, isNon0, inS, ninS, tN, tB, tL, tT, tR, t0, bLenL, bLenT, bLenR, bLenS, bIntN, bMin, bMax, bSum, bLstL, bLstT, bTupL, bTupT, ixL, ixT, ixR, ixS, isiN, isiR, flatN, flatR, mutN, mutR, itR, itL, itT, itS, cNilR, cNilN, cNilL, cNilM, meTyJ, inR, ninR, flat0, flatB, flatI, flatS, flatF, flatL, flatT, flatD, mut0, mutB, mutI, mutS, mutF, mutL, mutT, mutD, isi0, isiB, isiI, isiS, isiL, isiT, isiDc, muOk, muTyR, muTyL, muAR, muAL, rMul, setR, bAbs]
      · have hj' : j < n := by simpa using hj
        have ix := ixM (f := D.int) (l := is) (j := j) 0 (by omega)
        generalize is.getD j 0 = w at ix ⊢
        simp [ix, exR, evR, lineOk, sizeLine_eq, ofX, ofF, noR, R.out, R.bind, R.of, with1, with2, withs, Bor.res, Bor.frz, ress, frzs, bl2, dat, Sl.get?, Sl.frz, mkSl, Out.res, Res.put, mkArgs, ioAt, doCall, putIos, nd0, nd1, ndl, ndc, nAdd, nSub, nMul, nDiv, nMod, nShl, nShr, nAnd, nXor, nPow, sAdd, lAdd, rAdd, tAdd, lMul, sMul, cEqN, cEqS, cEqB, cNeN, cNeS, cNeB, cLt, cLe, cGt, cGe, cIs, cIsN, isNonN, isNonS, isNonL, isNonR, isNonT, isNonB, isNon0, inS, ninS, tN, tB, tL, tT, tR, t0, bLenL, bLenT, bLenR, bLenS, bIntN, bMin, bMax, bSum, bLstL, bLstT, bTupL, bTupT, ixL, ixT, ixR, ixS, isiN, isiR, flatN, flatR, mutN, mutR, itR, itL, itT, itS, cNilR, cNilN, cNilL, cNilM, meTyJ, inR, ninR, flat0, flatB, flatI, flatS, flatF, flatL, flatT, flatD, mut0, mutB, mutI, mutS, mutF, mutL, mutT, mutD, isi0, isiB, isiI, isiS, isiL, isiT, isiDc, muOk, muTyR, muTyL, muAR, muAL, rMul, setR, bAbs]
    have c5 : (evR G (fnEval G k) cLF5).f [.ow (drD l (at_ + 1 + n + 1)), .sh (nD n), .sh (nD (2 ^ n)), .sh (nD pick), .no, .no, .no, .ow (.lst (is.map D.int)), .sh (nD bd), .no, .no] = .ok (.lst ((List.range (2 ^ n)).map fun p => .str [ch (decide ((bd : Int) ≤ ((((List.range n).filter fun j => decide (p / 2 ^ j % 2 = 1)).map fun j => is.getD j 0)).sum))]), true) [.ow (drD l (at_ + 1 + n + 1)), .sh (nD n), .sh (nD (2 ^ n)), .sh (nD pick), .no, .no, .no, .ow (.lst (is.map D.int)), .sh (nD bd), .no, .no] := by
      refine comp_all (List.range (2 ^ n)) nD (fun p => .str [ch (decide ((bd : Int) ≤ ((((List.range n).filter fun j => decide (p / 2 ^ j % 2 = 1)).map fun j => is.getD j 0)).sum))]) (rng1_i (fr := false) (a := .var 2) rfl (by omega)) (by simp; omega) (fun p _ => ⟨false, ?_⟩)
      have c := c4 p
      generalize (((List.range n).filter fun j => decide (p / 2 ^ j % 2 = 1)).map fun j => is.getD j 0) = zs at c ⊢
      have sb : biD .sum [.lst (zs.map D.int)] = some (.int zs.sum, false) := by
        show (ints? (zs.map D.int)).map (fun ns => (D.int ns.sum, false)) = _
        rw [ints_map]
        rfl
      have cb : ∀ x, (evR G (fnEval G k) cLF4).b x = ((evR G (fnEval G k) cLF4).f x).bind fun x e1 => .ok (.dat x.1) e1 := fun _ => rfl
      have ge : cmpD .GtE (.int zs.sum) (nD bd) = some (decide ((bd : Int) ≤ zs.sum)) := rfl
      generalize cLF4 = cc at c cb ⊢
      by_cases hw : (bd : Int) ≤ zs.sum <;> simp only [hw, decide_true, decide_false] at ge <;> simp [c, cb, sb, ge, hw, ch, exR, evR, lineOk, sizeLine_eq, ofX, ofF, noR, R.out, R.bind, R.of, with1, with2, withs, Bor.res, Bor.frz, ress, frzs, bl2, dat, Sl.get?, Sl.frz, mkSl, Out.res, Res.put, mkArgs, ioAt, doCall, putIos, nd0, nd1, ndl, ndc, nAdd, nSub, nMul, nDiv, nMod, nShl, nShr, nAnd, nXor, nPow, sAdd, lAdd, rAdd, tAdd, lMul, sMul, cEqN, cEqS, cEqB, cNeN, cNeS, cNeB, cLt, cLe, cGt, cGe, cIs, cIsN, isNonN, isNonS, isNonL, isNonR, isNonT, isNonB, isNon0, inS, ninS, tN, tB, tL, tT, tR, t0, bLenL, bLenT, bLenR, bLenS, bIntN, bMin, bMax, bSum, bLstL, bLstT, bTupL, bTupT, ixL, ixT, ixR, ixS, isiN, isiR, flatN, flatR, mutN, mutR, itR, itL, itT, itS, cNilR, cNilN, cNilL, cNilM, meTyJ, inR, ninR, flat0, flatB, flatI, flatS, flatF, flatL, flatT, flatD, mut0, mutB, mutI, mutS, mutF, mutL, mutT, mutD, isi0, isiB, isiI, isiS, isiL, isiT, isiDc, muOk, muTyR, muTyL, muAR, muAL, rMul, setR, bAbs]
    refine ⟨fun p => decide ((bd : Int) ≤ ((((List.range n).filter fun j => decide (p / 2 ^ j % 2 = 1)).map fun j => is.getD j 0)).sum), at_ + 1 + n + 1, [.ow (drD l (at_ + 1 + n + 1)), .sh (nD n), .sh (nD (2 ^ n)), .sh (nD pick), .no, .no, .no, .ow (.lst (is.map D.int)), .sh (nD bd), .no, .no], by omega, ?_, rfl⟩
    refine seq_rt ((cond_tt (e1 := [.ow (drD l (at_ + 1)), .sh (nD n), .sh (nD (2 ^ n)), .sh (nD pick), .no, .no, .no, .no, .no, .no, .no]) (by simp [c2, exR, evR, lineOk, sizeLine_eq, ofX, ofF, noR, R.out, R.bind, R.of, with1, with2, withs, Bor.res, Bor.frz, ress, frzs, bl2, dat, Sl.get?, Sl.frz, mkSl, Out.res, Res.put, mkArgs, ioAt, doCall, putIos, nd0, nd1, ndl, ndc, nAdd, nSub, nMul, nDiv, nMod, nShl, nShr, nAnd, nXor, nPow, sAdd, lAdd, rAdd, tAdd, lMul, sMul, cEqN, cEqS, cEqB, cNeN, cNeS, cNeB, cLt, cLe, cGt, cGe, cIs, cIsN, isNonN, isNonS, isNonL, isNonR, isNonT, isNonB, isNon0, inS, ninS, tN, tB, tL, tT, tR, t0, bLenL, bLenT, bLenR, bLenS, bIntN, bMin, bMax, bSum, bLstL, bLstT, bTupL, bTupT, ixL, ixT, ixR, ixS, isiN, isiR, flatN, flatR, mutN, mutR, itR, itL, itT, itS, cNilR, cNilN, cNilL, cNilM, meTyJ, inR, ninR, flat0, flatB, flatI, flatS, flatF, flatL, flatT, flatD, mut0, mutB, mutI, mutS, mutF, mutL, mutT, mutD, isi0, isiB, isiI, isiS, isiL, isiT, isiDc, muOk, muTyR, muTyL, muAR, muAL, rMul, setR, bAbs])).trans ?_)
    exact (seq_nx (asg_nx (a := cLF3 d) h3 rfl)).trans ((seq_nx (asg_nx g2 rfl)).trans (rLF_ok (c := cLF5) hn rfl (fun _ => rfl) c5))
  have f2 : (evR G (fnEval G k) (.cmp .Eq (.var 3) (.lit (.int 2)))).t [.ow (drD l (at_ + 1)), .sh (nD n), .sh (nD (2 ^ n)), .sh (nD pick), .no, .no, .no, .no, .no, .no, .no] = .ok false [.ow (drD l (at_ + 1)), .sh (nD n), .sh (nD (2 ^ n)), .sh (nD pick), .no, .no, .no, .no, .no, .no, .no] := by simp [c2, exR, evR, lineOk, sizeLine_eq, ofX, ofF, noR, R.out, R.bind, R.of, with1, with2, withs, Bor.res, Bor.frz, ress, frzs, bl2, dat, Sl.get?, Sl.frz, mkSl, Out.res, Res.put, mkArgs, ioAt, doCall, putIos, nd0, nd1, ndl, ndc, nAdd, nSub, nMul, nDiv, nMod, nShl, nShr, nAnd, nXor, nPow, sAdd, lAdd, rAdd, tAdd, lMul, sMul, cEqN, cEqS, cEqB, cNeN, cNeS, cNeB, cLt, cLe, cGt, cGe, cIs, cIsN, isNonN, isNonS, isNonL, isNonR, isNonT, isNonB, isNon0, inS, ninS, tN, tB, tL, tT, tR, t0, bLenL, bLenT, bLenR, bLenS, bIntN, bMin, bMax, bSum, bLstL, bLstT, bTupL, bTupT, ixL, ixT, ixR, ixS, isiN, isiR, flatN, flatR, mutN, mutR, itR, itL, itT, itS, cNilR, cNilN, cNilL, cNilM, meTyJ, inR, ninR, flat0, flatB, flatI, flatS, flatF, flatL, flatT, flatD, mut0, mutB, mutI, mutS, mutF, mutL, mutT, mutD, isi0, isiB, isiI, isiS, isiL, isiT, isiDc, muOk, muTyR, muTyL, muAR, muAL, rMul, setR, bAbs]
  rw [seq_nx ((cond_ff f2).trans skip_nx)]
  obtain ⟨keep, hk, g4⟩ := draw2_call hm hd k 0 l (at_ + 1) (2 ^ n) hs hl (by omega) p1 (by omega) (.var 2) [.ow (drD l (at_ + 1)), .sh (nD n), .sh (nD (2 ^ n)), .sh (nD pick), .no, .no, .no, .no, .no, .no, .no] rfl rfl
  
  obtain ⟨ys, h1, h2, h3⟩ := comp_draws (G := G) (call := fnEval G k) (el := .call d (.cons (.var 0) (.cons (.lit (.int 2)) .nil))) (it := .rng1 (.var 2)) (s := "p") (e0 := [.ow (drD l (at_ + 2)), .sh (nD n), .sh (nD (2 ^ n)), .sh (nD pick), .sh (nD keep), .no, .no, .no, .no, .no, .no]) (base := [.ow (drD l (at_ + 2)), .sh (nD n), .sh (nD (2 ^ n)), .sh (nD pick), .sh (nD keep), .no, .no, .no, .no, .no, .no]) (fun y => ∃ w, y = nD w ∧ w < 2) l (at_ + 2) (2 ^ n) (by omega) (show (9 : Nat) ≠ 0 by decide) (rng1_i (fr := false) (a := .var 2) rfl (by omega)) fun a x hax => by
    obtain ⟨v, hv, g⟩ := draw2_call hm hd k 0 l a 2 hs hl (by omega) (by decide) (by omega) (.lit (.int 2)) [.ow (drD l a), .sh (nD n), .sh (nD (2 ^ n)), .sh (nD pick), .sh (nD keep), .no, .no, .no, .no, .sh x, .no] rfl rfl
    exact ⟨nD v, false, g, v, rfl, hv⟩
  obtain ⟨ws, rfl, hw2⟩ := rows_some h2
  rw [List.length_map] at h1
  have c7 : (evR G (fnEval G k) cLF7).f [.ow (drD l (at_ + 2 + 2 ^ n)), .sh (nD n), .sh (nD (2 ^ n)), .sh (nD pick), .sh (nD keep), .ow (rowsD ws), .no, .no, .no, .no, .no] = .ok (.lst ((List.range (2 ^ n)).map fun p => .str [ch (decide (ws.getD (p &&& keep) 0 = 1))]), true) [.ow (drD l (at_ + 2 + 2 ^ n)), .sh (nD n), .sh (nD (2 ^ n)), .sh (nD pick), .sh (nD keep), .ow (rowsD ws), .no, .no, .no, .no, .no] := by
    refine comp_all (List.range (2 ^ n)) nD (fun p => .str [ch (decide (ws.getD (p &&& keep) 0 = 1))]) (rng1_i (fr := false) (a := .var 2) rfl (by omega)) (by simp; omega) (fun p hp => ⟨false, ?_⟩)
    have hlt : p &&& keep < ws.length := by
      rw [h1]
      exact Nat.and_lt_two_pow p hk
    have ix := ixR hlt
    have hm2 : ws.getD (p &&& keep) 0 < 2 := by
      rw [List.getD_eq_getElem?_getD, List.getElem?_eq_getElem hlt]
      exact hw2 _ (List.getElem_mem hlt)
    generalize ws.getD (p &&& keep) 0 = w at ix hm2 ⊢
    have st := str01 (decide (w = 1))
    have ew : (if decide (w = 1) = true then 1 else 0) = w := by
      have : w = 0 ∨ w = 1 := by omega
      rcases this with rfl | rfl <;> rfl
    rw [ew] at st
    generalize ch (decide (w = 1)) = cc at st ⊢
    simp [ix, st, exR, evR, lineOk, sizeLine_eq, ofX, ofF, noR, R.out, R.bind, R.of, with1, with2, withs, Bor.res, Bor.frz, ress, frzs, bl2, dat, Sl.get?, Sl.frz, mkSl, Out.res, Res.put, mkArgs, ioAt, doCall, putIos, nd0, nd1, ndl, ndc, nAdd, nSub, nMul, nDiv, nMod, nShl, nShr, nAnd, nXor, nPow, sAdd, lAdd, rAdd, tAdd, lMul, sMul, cEqN, cEqS, cEqB, cNeN, cNeS, cNeB, cLt, cLe, cGt, cGe, cIs, cIsN, isNonN, isNonS, isNonL, isNonR, isNonT, isNonB, isNon0, inS, ninS, tN, tB, tL, tT, tR, t0, bLenL, bLenT, bLenR, bLenS, bIntN, bMin, bMax, bSum, bLstL, bLstT, bTupL, bTupT, ixL, ixT, ixR, ixS, isiN, isiR, flatN, flatR, mutN, mutR, itR, itL, itT, itS, cNilR, cNilN, cNilL, cNilM, meTyJ, inR, ninR, flat0, flatB, flatI, flatS, flatF, flatL, flatT, flatD, mut0, mutB, mutI, mutS, mutF, mutL, mutT, mutD, isi0, isiB, isiI, isiS, isiL, isiT, isiDc, muOk, muTyR, muTyL, muAR, muAL, rMul, setR, bAbs]
  refine ⟨fun p => decide (ws.getD (p &&& keep) 0 = 1), at_ + 2 + 2 ^ n, [.ow (drD l (at_ + 2 + 2 ^ n)), .sh (nD n), .sh (nD (2 ^ n)), .sh (nD pick), .sh (nD keep), .ow (rowsD ws), .no, .no, .no, .no, .no], by omega, ?_, rfl⟩
  exact (seq_nx (asg_nx g4 rfl)).trans ((seq_nx (asg_nx (a := cLF6 d) h3 rfl)).trans (rLF_ok (c := cLF7) hn rfl (fun _ => rfl) c7))
end
end EV
/-! Dicts of new keys; comprehensions over pairs. -/
namespace EV
open PySem
theorem keqN (a b : Nat) : keq (nD a) (nD b) = decide (a = b) := by
  show decide ((a : Int) = (b : Int)) = _
  exact decide_eq_decide.mpr (by omega)
theorem any_keqN (l : List Nat) (a : Nat) : ((l.map nD).any fun c => keq c (nD a)) = decide (a ∈ l) := by
  induction l with
  | nil => rfl
  | cons b l ih =>
    rw [List.map_cons, List.any_cons, ih, keqN]
    by_cases h : b = a
    · subst h
      simp
    · have h2 : ¬ a = b := fun z => h z.symm
      simp [h, h2]
theorem inDct (p : Nat) (l : List Nat) (ws : List D) : cmpD .In (nD p) (.dct (l.map nD) ws) = some (decide (p ∈ l)) := by
  show (if (nD p).isKey = true then some ((l.map nD).any fun c => keq c (nD p)) else none) = _
  rw [any_keqN]
  rfl
section
variable {G : Cfg} {call : Nat → List Sl → FR}
theorem dcomp_ok {kx vx it c : SE} {tg : Tg} {own : List (Str × Nat)} {e e1 e2 e3 : Ev} {ds ks ws : List D} (h : (evR G call it).i e = .ok ds e1) (h2 : dcompL (own.map (·.2)) tg (evR G call c).t (evR G call kx).f (evR G call vx).f ds [] [] e1 = .ok (ks, ws) e2) (h3 : putBack e2 e1 (own.map (·.2)) = e3) :
    (evR G call (.dcomp kx vx tg it c own)).f e = .ok (.dct ks ws, true) e3 := by
  show (((evR G call it).i e).bind fun ds e1 => (dcompL (own.map (·.2)) tg (evR G call c).t (evR G call kx).f (evR G call vx).f ds [] [] e1).bind fun ys e2 => .ok (D.dct ys.1 ys.2, true) (putBack e2 e1 (own.map (·.2)))) = _
  rw [h]
  show ((dcompL (own.map (·.2)) tg (evR G call c).t (evR G call kx).f (evR G call vx).f ds [] [] e1).bind fun ys e2 => .ok (D.dct ys.1 ys.2, true) (putBack e2 e1 (own.map (·.2)))) = _
  rw [h2, ← h3]
  rfl
/-- new keys, one after the other -/
theorem dcomp_new {kx vx it : SE} {v : Nat} {s : Str} {e e1 : Ev} (l : List Nat) (hnd : l.Nodup) (g : Nat → D) (hl : l.length ≤ 1000000) (hit : (evR G call it).i e = .ok (l.map nD) e1)
    (hk : ∀ a ∈ l, ∃ fr, (evR G call kx).f (e1.set v (.sh (nD a))) = .ok (nD a, fr) (e1.set v (.sh (nD a)))) (hv : ∀ a ∈ l, ∃ fr, (evR G call vx).f (e1.set v (.sh (nD a))) = .ok (g a, fr) (e1.set v (.sh (nD a)))) :
    (evR G call (.dcomp kx vx (.nm v) it .nop [(s, v)])).f e = .ok (.dct (l.map nD) (l.map g), true) e1 := by
  have key : ∀ (r pre : List Nat) (e' : Ev), (pre ++ r).Nodup → (pre ++ r).length ≤ 1000000 → (∀ a ∈ r, a ∈ l) → (∃ x, e' = e1.set v x) →
      ∃ x, dcompL [v] (.nm v) (evR G call .nop).t (evR G call kx).f (evR G call vx).f (r.map nD) (pre.map nD) (pre.map g) e' = .ok ((pre ++ r).map nD, (pre ++ r).map g) (e1.set v x) := by
    intro r
    induction r with
    | nil =>
      rintro pre _ _ _ _ ⟨x, rfl⟩
      exact ⟨.no, by simp [dcompL, wipeE]⟩
    | cons a r ih =>
      rintro pre _ nd len sub ⟨x, rfl⟩
      obtain ⟨f1, k1⟩ := hk a (sub a List.mem_cons_self)
      obtain ⟨f2, k2⟩ := hv a (sub a List.mem_cons_self)
      have e2 : pre ++ a :: r = (pre ++ [a]) ++ r := by simp
      have hna : a ∉ pre := fun z => by
        rw [List.nodup_append] at nd
        exact nd.2.2 a z a List.mem_cons_self rfl
      obtain ⟨y, q⟩ := ih (pre ++ [a]) (e1.set v (.sh (nD a))) (by rw [← e2]; exact nd) (by rw [← e2]; exact len) (fun b hb => sub b (List.mem_cons_of_mem _ hb)) ⟨_, rfl⟩
      refine ⟨y, ?_⟩
      rw [List.map_cons, e2]
      unfold dcompL
      rw [show tgD (.nm v) (nD a) (wipeE (e1.set v x) [v]) = some (e1.set v (.sh (nD a))) by simp [tgD, wipeE]]
      simp only
      rw [show (evR G call .nop).t (e1.set v (.sh (nD a))) = .ok true (e1.set v (.sh (nD a))) from rfl]
      simp only [k1, k2]
      have hlen : (pre.map nD).length < sizeLine := by
        rw [List.length_map, sizeLine_eq]
        rw [List.length_append] at len
        omega
      rw [show ((nD a).isKey && decide ((pre.map nD).length < sizeLine)) = true by rw [decide_eq_true hlen]; rfl, if_pos rfl]
      have hp : putD (pre.map nD) (pre.map g) (nD a) (g a) = ((pre ++ [a]).map nD, (pre ++ [a]).map g) := by
        unfold putD
        rw [any_keqN, decide_eq_false hna, if_neg Bool.false_ne_true, List.map_append, List.map_append]
        rfl
      rw [hp]
      exact q
  obtain ⟨x, q⟩ := key l [] e1 (by simpa using hnd) (by simpa using hl) (fun _ h => h) ⟨e1.getD v .no, (set_getD e1 v).symm⟩
  refine dcomp_ok hit q ?_
  show ((e1.set v x).set v (e1.getD v .no)) = e1
  rw [List.set_set]
  exact set_getD e1 v
/-- over pairs -/
theorem comp_pairs {α : Type} {el it c : SE} {v w : Nat} {s t : Str} {e e1 : Ev} (l : List α) (h1 h2 : α → D) (P : α → Bool) (g : α → D) (hvw : v ≠ w)
    (hit : (evR G call it).i e = .ok (l.map fun a => .tup [h1 a, h2 a]) e1) (hl : l.length ≤ 1000000)
    (hc : ∀ a ∈ l, (evR G call c).t ((e1.set v (.sh (h1 a))).set w (.sh (h2 a))) = .ok (P a) ((e1.set v (.sh (h1 a))).set w (.sh (h2 a))))
    (he : ∀ a ∈ l, P a = true → ∃ fr, (evR G call el).f ((e1.set v (.sh (h1 a))).set w (.sh (h2 a))) = .ok (g a, fr) ((e1.set v (.sh (h1 a))).set w (.sh (h2 a)))) :
    (evR G call (.comp el (.tp [v, w]) it c [(s, v), (t, w)])).f e = .ok (.lst ((l.filter P).map g), true) e1 := by
  have key : ∀ (l : List α) (acc : List D) (e' : Ev), acc.length + l.length ≤ sizeLine → (∃ x y, e' = (e1.set v x).set w y) →
      (∀ a ∈ l, (evR G call c).t ((e1.set v (.sh (h1 a))).set w (.sh (h2 a))) = .ok (P a) ((e1.set v (.sh (h1 a))).set w (.sh (h2 a)))) →
      (∀ a ∈ l, P a = true → ∃ fr, (evR G call el).f ((e1.set v (.sh (h1 a))).set w (.sh (h2 a))) = .ok (g a, fr) ((e1.set v (.sh (h1 a))).set w (.sh (h2 a)))) →
      ∃ x y, compL [v, w] (.tp [v, w]) (evR G call c).t (evR G call el).f (l.map fun a => .tup [h1 a, h2 a]) acc e' = .ok (acc ++ (l.filter P).map g) ((e1.set v x).set w y) := by
    have wp : ∀ x y, wipeE ((e1.set v x).set w y) [v, w] = (e1.set v .no).set w .no := fun x y => by
      show (((e1.set v x).set w y).set w .no).set v .no = _
      rw [List.set_set, List.set_comm _ _ (Ne.symm hvw), List.set_set]
    intro l
    induction l with
    | nil =>
      rintro acc _ _ ⟨x, y, rfl⟩ _ _
      exact ⟨.no, .no, by simp only [List.map_nil, compL, wp, List.filter_nil, List.append_nil]⟩
    | cons a l ih =>
      rintro acc _ hl ⟨x, y, rfl⟩ hc he
      rw [List.length_cons] at hl
      rw [List.map_cons]
      unfold compL
      have ht : tgD (.tp [v, w]) (.tup [h1 a, h2 a]) (wipeE ((e1.set v x).set w y) [v, w]) = some ((e1.set v (.sh (h1 a))).set w (.sh (h2 a))) := by
        rw [wp]
        show some ((((e1.set v .no).set w .no).set v (.sh (h1 a))).set w (.sh (h2 a))) = _
        rw [List.set_comm _ _ (Ne.symm hvw) (l := e1.set v .no), List.set_set, List.set_set]
      rw [ht]
      simp only
      rw [hc a List.mem_cons_self]
      cases hp : P a with
      | false =>
        obtain ⟨x', y', k1⟩ := ih acc _ (by omega) ⟨_, _, rfl⟩ (fun b hb => hc b (List.mem_cons_of_mem _ hb)) (fun b hb => he b (List.mem_cons_of_mem _ hb))
        exact ⟨x', y', by simp only [List.filter_cons, hp]; exact k1⟩
      | true =>
        obtain ⟨fr, h2⟩ := he a List.mem_cons_self hp
        simp only [h2]
        obtain ⟨x', y', k1⟩ := ih (acc ++ [g a]) _ (by rw [List.length_append]; simp; omega) ⟨_, _, rfl⟩ (fun b hb => hc b (List.mem_cons_of_mem _ hb)) (fun b hb => he b (List.mem_cons_of_mem _ hb))
        refine ⟨x', y', ?_⟩
        rw [if_pos (by simp; omega), k1]
        simp [List.filter_cons, hp]
  have start : e1 = (e1.set v (e1.getD v .no)).set w (e1.getD w .no) := by rw [set_getD, set_getD]
  obtain ⟨x, y, k1⟩ := key l [] e1 (by rw [sizeLine_eq]; simp; omega) ⟨_, _, start⟩ hc he
  rw [List.nil_append] at k1
  refine comp_ok hit k1 ?_
  show ((((e1.set v x).set w y).set w (e1.getD w .no)).set v (e1.getD v .no)) = e1
  rw [List.set_set, List.set_comm _ _ (Ne.symm hvw), List.set_set, set_getD, set_getD]
end
end EV
namespace K00
open PySem PySem.Spec PyProof.Rows L2
def f0 : EV.Fn := ⟨"is_number", 3, ["value", "low", "high"], [], (.seq (.ret (.and (.isi (.var 0) .int) (.and (.not (.isi (.var 0) .bool)) (.cmp2 .LtE .LtE (.var 1) (.var 0) (.var 2))))) .skip)⟩
def f1 : EV.Fn := ⟨"check_number", 3, ["value", "low", "high"], [], (.seq (.cond (.not (.call 0 (.cons (.var 0) (.cons (.var 1) (.cons (.var 2) .nil))))) (.seq (.raise 2) .skip) .skip) .skip)⟩
def F2c0 : EV.SE := .comp (.var 3) (.nm 3) (.var 0) (.not (.call 0 (.cons (.var 3) (.cons (.var 1) (.cons (.var 2) .nil))))) [("one", 3)]
def F2c1 : EV.SE := .comp (.var 4) (.nm 4) (.rng2 (.lit (.int 1)) (.bi .len (.cons (.var 0) .nil))) (.cmp .GtE (.ix (.var 0) (.bin .Sub (.var 4) (.lit (.int 1)))) (.ix (.var 0) (.var 4))) [("k", 4)]
def f2 : EV.Fn := ⟨"is_rising", 3, ["value", "low", "high", "one", "k"], [], (.seq (.cond (.or (.not (.isi (.var 0) .list)) F2c0) (.seq (.ret (.lit (.bl false))) .skip) .skip) (.seq (.ret (.cmp .Eq F2c1 (.lst .nil))) .skip))⟩
def f3 : EV.Fn := ⟨"is_bits", 2, ["value", "many", "sign"], [], (.seq (.cond (.or (.not (.isi (.var 0) .str)) (.cmp .NotEq (.bi .len (.cons (.var 0) .nil)) (.var 1))) (.seq (.ret (.lit (.bl false))) .skip) .skip) (.seq (.ret (.cmp .Eq (.comp (.var 2) (.nm 2) (.var 0) (.cmp .NotIn (.var 2) (.lit (.str [48, 49]))) [("sign", 2)]) (.lst .nil))) .skip))⟩
def f4 : EV.Fn := ⟨"two_to", 1, ["k"], [], (.seq (.ret (.bin .LShift (.lit (.int 1)) (.var 0))) .skip)⟩
def f5 : EV.Fn := ⟨"bit", 2, ["p", "k"], [], (.seq (.ret (.bin .BitAnd (.bin .RShift (.var 0) (.var 1)) (.lit (.int 1)))) .skip)⟩
def f6 : EV.Fn := ⟨"is_function", 1, ["value"], [], (.seq (.cond (.or (.not (.isi (.var 0) .tuple)) (.or (.cmp .NotEq (.bi .len (.cons (.var 0) .nil)) (.lit (.int 2))) (.not (.call 0 (.cons (.ix (.var 0) (.lit (.int 0))) (.cons (.lit (.int 0)) (.cons (.glo 0) .nil))))))) (.seq (.ret (.lit (.bl false))) .skip) .skip) (.seq (.ret (.call 3 (.cons (.ix (.var 0) (.lit (.int 1))) (.cons (.call 4 (.cons (.ix (.var 0) (.lit (.int 0))) .nil)) .nil)))) .skip))⟩
def f7 : EV.Fn := ⟨"check_function", 1, ["value"], [], (.seq (.cond (.not (.call 6 (.cons (.var 0) .nil))) (.seq (.raise 1) .skip) .skip) .skip)⟩
def f8 : EV.Fn := ⟨"check_two", 2, ["f", "g"], [], (.seq (.expr (.call 7 (.cons (.var 0) .nil))) (.seq (.expr (.call 7 (.cons (.var 1) .nil))) (.seq (.cond (.cmp .NotEq (.ix (.var 0) (.lit (.int 0))) (.ix (.var 1) (.lit (.int 0)))) (.seq (.raise 2) .skip) .skip) .skip)))⟩
def f9 : EV.Fn := ⟨"check_input", 2, ["f", "p"], [], (.seq (.expr (.call 1 (.cons (.var 1) (.cons (.lit (.int 0)) (.cons (.bin .Sub (.call 4 (.cons (.ix (.var 0) (.lit (.int 0))) .nil)) (.lit (.int 1))) .nil))))) .skip)⟩
def f10 : EV.Fn := ⟨"check_variable", 2, ["f", "k"], [], (.seq (.expr (.call 1 (.cons (.var 1) (.cons (.lit (.int 0)) (.cons (.bin .Sub (.ix (.var 0) (.lit (.int 0))) (.lit (.int 1))) .nil))))) .skip)⟩
def f11 : EV.Fn := ⟨"check_value", 1, ["v"], [], (.seq (.expr (.call 1 (.cons (.var 0) (.cons (.lit (.int 0)) (.cons (.lit (.int 1)) .nil))))) .skip)⟩
def f12 : EV.Fn := ⟨"value_at", 2, ["function", "p"], [], (.seq (.expr (.call 7 (.cons (.var 0) .nil))) (.seq (.expr (.call 9 (.cons (.var 0) (.cons (.var 1) .nil)))) (.seq (.ret (.bi .intF (.cons (.ix (.ix (.var 0) (.lit (.int 1))) (.var 1)) .nil))) .skip)))⟩
def F13c0 : EV.SE := .comp (.var 1) (.nm 1) (.rng1 (.bi .len (.cons (.ix (.var 0) (.lit (.int 1))) .nil))) (.cmp .Eq (.ix (.ix (.var 0) (.lit (.int 1))) (.var 1)) (.lit (.str [49]))) [("p", 1)]
def f13 : EV.Fn := ⟨"ones_in", 1, ["f", "p"], [], (.seq (.ret F13c0) .skip)⟩
def f14 : EV.Fn := ⟨"ones_of", 1, ["function"], [], (.seq (.expr (.call 7 (.cons (.var 0) .nil))) (.seq (.ret (.call 13 (.cons (.var 0) .nil))) .skip))⟩
def f15 : EV.Fn := ⟨"function_of", 2, ["n", "values", "one"], [], (.seq (.ret (.tup (.cons (.var 0) (.cons (.me .join (.lit (.str [])) (.cons (.comp (.ife (.var 2) (.lit (.str [49])) (.lit (.str [48]))) (.nm 2) (.var 1) .nop [("one", 2)]) .nil)) .nil)))) .skip)⟩
def F16c0 : EV.SE := .dcomp (.var 3) (.lit (.bl true)) (.nm 3) (.var 1) .nop [("p", 3)]
def F16c1 : EV.SE := .comp (.cmp .In (.var 3) (.var 2)) (.nm 3) (.rng1 (.call 4 (.cons (.var 0) .nil))) .nop [("p", 3)]
def f16 : EV.Fn := ⟨"with_ones", 2, ["n", "inputs", "there", "p"], [], (.seq (.expr (.call 1 (.cons (.var 0) (.cons (.lit (.int 0)) (.cons (.glo 0) .nil))))) (.seq (.cond (.not (.call 2 (.cons (.var 1) (.cons (.lit (.int 0)) (.cons (.bin .Sub (.call 4 (.cons (.var 0) .nil)) (.lit (.int 1))) .nil))))) (.seq (.raise 2) .skip) .skip) (.seq (.asg 2 F16c0) (.seq (.ret (.call 15 (.cons (.var 0) (.cons F16c1 .nil)))) .skip))))⟩
def f17 : EV.Fn := ⟨"constant", 2, ["n", "v"], [], (.seq (.expr (.call 1 (.cons (.var 0) (.cons (.lit (.int 0)) (.cons (.glo 0) .nil))))) (.seq (.expr (.call 11 (.cons (.var 1) .nil))) (.seq (.ret (.tup (.cons (.var 0) (.cons (.bin .Mult (.bi .strF (.cons (.var 1) .nil)) (.call 4 (.cons (.var 0) .nil))) .nil)))) .skip)))⟩
def F18c0 : EV.SE := .comp (.call 5 (.cons (.var 2) (.cons (.var 1) .nil))) (.nm 2) (.rng1 (.call 4 (.cons (.var 0) .nil))) .nop [("p", 2)]
def f18 : EV.Fn := ⟨"variable", 2, ["n", "k", "p"], [], (.seq (.expr (.call 1 (.cons (.var 0) (.cons (.lit (.int 0)) (.cons (.glo 0) .nil))))) (.seq (.expr (.call 1 (.cons (.var 1) (.cons (.lit (.int 0)) (.cons (.bin .Sub (.var 0) (.lit (.int 1))) .nil))))) (.seq (.ret (.call 15 (.cons (.var 0) (.cons F18c0 .nil)))) .skip)))⟩
def F19c0 : EV.SE := .comp (.cmp .Eq (.var 1) (.lit (.str [48]))) (.nm 1) (.ix (.var 0) (.lit (.int 1))) .nop [("sign", 1)]
def f19 : EV.Fn := ⟨"not_of", 1, ["f", "sign"], [], (.seq (.ret (.call 15 (.cons (.ix (.var 0) (.lit (.int 0))) (.cons F19c0 .nil)))) .skip)⟩
def f20 : EV.Fn := ⟨"turned", 1, ["function"], [], (.seq (.expr (.call 7 (.cons (.var 0) .nil))) (.seq (.ret (.call 19 (.cons (.var 0) .nil))) .skip))⟩
def F21c0 : EV.SE := .comp (.and (.cmp .Eq (.ix (.ix (.var 0) (.lit (.int 1))) (.var 2)) (.lit (.str [49]))) (.cmp .Eq (.ix (.ix (.var 1) (.lit (.int 1))) (.var 2)) (.lit (.str [49])))) (.nm 2) (.rng1 (.bi .len (.cons (.ix (.var 0) (.lit (.int 1))) .nil))) .nop [("p", 2)]
def f21 : EV.Fn := ⟨"both_of", 2, ["f", "g", "p"], [], (.seq (.ret (.call 15 (.cons (.ix (.var 0) (.lit (.int 0))) (.cons F21c0 .nil)))) .skip)⟩
def f22 : EV.Fn := ⟨"both", 2, ["f", "g"], [], (.seq (.expr (.call 8 (.cons (.var 0) (.cons (.var 1) .nil)))) (.seq (.ret (.call 21 (.cons (.var 0) (.cons (.var 1) .nil)))) .skip))⟩
def F23c0 : EV.SE := .comp (.or (.cmp .Eq (.ix (.ix (.var 0) (.lit (.int 1))) (.var 2)) (.lit (.str [49]))) (.cmp .Eq (.ix (.ix (.var 1) (.lit (.int 1))) (.var 2)) (.lit (.str [49])))) (.nm 2) (.rng1 (.bi .len (.cons (.ix (.var 0) (.lit (.int 1))) .nil))) .nop [("p", 2)]
def f23 : EV.Fn := ⟨"either_of", 2, ["f", "g", "p"], [], (.seq (.ret (.call 15 (.cons (.ix (.var 0) (.lit (.int 0))) (.cons F23c0 .nil)))) .skip)⟩
def f24 : EV.Fn := ⟨"either", 2, ["f", "g"], [], (.seq (.expr (.call 8 (.cons (.var 0) (.cons (.var 1) .nil)))) (.seq (.ret (.call 23 (.cons (.var 0) (.cons (.var 1) .nil)))) .skip))⟩
def F25c0 : EV.SE := .comp (.cmp .NotEq (.ix (.ix (.var 0) (.lit (.int 1))) (.var 2)) (.ix (.ix (.var 1) (.lit (.int 1))) (.var 2))) (.nm 2) (.rng1 (.bi .len (.cons (.ix (.var 0) (.lit (.int 1))) .nil))) .nop [("p", 2)]
def f25 : EV.Fn := ⟨"unlike_of", 2, ["f", "g", "p"], [], (.seq (.ret (.call 15 (.cons (.ix (.var 0) (.lit (.int 0))) (.cons F25c0 .nil)))) .skip)⟩
def f26 : EV.Fn := ⟨"unlike", 2, ["f", "g"], [], (.seq (.expr (.call 8 (.cons (.var 0) (.cons (.var 1) .nil)))) (.seq (.ret (.call 25 (.cons (.var 0) (.cons (.var 1) .nil)))) .skip))⟩
def F27c0 : EV.SE := .comp (.var 2) (.nm 2) (.rng1 (.bi .len (.cons (.ix (.var 0) (.lit (.int 1))) .nil))) (.and (.cmp .Eq (.ix (.ix (.var 0) (.lit (.int 1))) (.var 2)) (.lit (.str [49]))) (.cmp .Eq (.ix (.ix (.var 1) (.lit (.int 1))) (.var 2)) (.lit (.str [48])))) [("p", 2)]
def f27 : EV.Fn := ⟨"within", 2, ["f", "g", "p"], [], (.seq (.ret (.cmp .Eq F27c0 (.lst .nil))) .skip)⟩
def f28 : EV.Fn := ⟨"is_within", 2, ["f", "g"], [], (.seq (.expr (.call 8 (.cons (.var 0) (.cons (.var 1) .nil)))) (.seq (.ret (.call 27 (.cons (.var 0) (.cons (.var 1) .nil)))) .skip))⟩
def F29c0 : EV.SE := .comp (.var 3) (.nm 3) (.rng1 (.bi .len (.cons (.ix (.var 0) (.lit (.int 1))) .nil))) (.cmp .NotEq (.ix (.ix (.var 0) (.lit (.int 1))) (.var 3)) (.ix (.ix (.var 1) (.lit (.int 1))) (.var 3))) [("p", 3)]
def f29 : EV.Fn := ⟨"first_unlike", 2, ["f", "g", "found", "p"], [], (.seq (.expr (.call 8 (.cons (.var 0) (.cons (.var 1) .nil)))) (.seq (.asg 2 F29c0) (.seq (.ret (.ife (.var 2) (.ix (.var 2) (.lit (.int 0))) (.lit .non))) .skip)))⟩
def F30c0 : EV.SE := .comp (.ife (.cmp .Eq (.ix (.ix (.var 0) (.lit (.int 1))) (.var 3)) (.lit (.str [49]))) (.ix (.ix (.var 1) (.lit (.int 1))) (.var 3)) (.ix (.ix (.var 2) (.lit (.int 1))) (.var 3))) (.nm 3) (.rng1 (.bi .len (.cons (.ix (.var 0) (.lit (.int 1))) .nil))) .nop [("p", 3)]
def f30 : EV.Fn := ⟨"chosen", 3, ["f", "g", "h", "p"], [], (.seq (.expr (.call 8 (.cons (.var 0) (.cons (.var 1) .nil)))) (.seq (.expr (.call 7 (.cons (.var 2) .nil))) (.seq (.cond (.cmp .NotEq (.ix (.var 0) (.lit (.int 0))) (.ix (.var 2) (.lit (.int 0)))) (.seq (.raise 2) .skip) .skip) (.seq (.ret (.tup (.cons (.ix (.var 0) (.lit (.int 0))) (.cons (.me .join (.lit (.str [])) (.cons F30c0 .nil)) .nil)))) .skip))))⟩
def f31 : EV.Fn := ⟨"with_bit", 3, ["p", "k", "v"], [], (.seq (.ret (.ife (.cmp .Eq (.var 2) (.lit (.int 1))) (.bin .BitOr (.var 0) (.call 4 (.cons (.var 1) .nil))) (.bin .BitAnd (.var 0) (.una .Invert (.call 4 (.cons (.var 1) .nil)))))) .skip)⟩
def F32c0 : EV.SE := .comp (.ix (.ix (.var 0) (.lit (.int 1))) (.call 31 (.cons (.var 3) (.cons (.var 1) (.cons (.var 2) .nil))))) (.nm 3) (.rng1 (.bi .len (.cons (.ix (.var 0) (.lit (.int 1))) .nil))) .nop [("p", 3)]
def f32 : EV.Fn := ⟨"put_in", 3, ["f", "k", "v", "p"], [], (.seq (.ret (.tup (.cons (.ix (.var 0) (.lit (.int 0))) (.cons (.me .join (.lit (.str [])) (.cons F32c0 .nil)) .nil)))) .skip)⟩
def f33 : EV.Fn := ⟨"put", 3, ["f", "k", "v"], [], (.seq (.expr (.call 7 (.cons (.var 0) .nil))) (.seq (.expr (.call 10 (.cons (.var 0) (.cons (.var 1) .nil)))) (.seq (.expr (.call 11 (.cons (.var 2) .nil))) (.seq (.ret (.call 32 (.cons (.var 0) (.cons (.var 1) (.cons (.var 2) .nil))))) .skip))))⟩
def F34c0 : EV.SE := .comp (.ix (.ix (.var 0) (.lit (.int 1))) (.var 3)) (.nm 3) (.rng1 (.bi .len (.cons (.ix (.var 0) (.lit (.int 1))) .nil))) (.cmp .Eq (.call 5 (.cons (.var 3) (.cons (.var 1) .nil))) (.var 2)) [("p", 3)]
def f34 : EV.Fn := ⟨"left_out", 3, ["f", "k", "v", "p"], [], (.seq (.ret (.tup (.cons (.bin .Sub (.ix (.var 0) (.lit (.int 0))) (.lit (.int 1))) (.cons (.me .join (.lit (.str [])) (.cons F34c0 .nil)) .nil)))) .skip)⟩
def f35 : EV.Fn := ⟨"without", 3, ["f", "k", "v"], [], (.seq (.expr (.call 7 (.cons (.var 0) .nil))) (.seq (.expr (.call 10 (.cons (.var 0) (.cons (.var 1) .nil)))) (.seq (.expr (.call 11 (.cons (.var 2) .nil))) (.seq (.ret (.call 34 (.cons (.var 0) (.cons (.var 1) (.cons (.var 2) .nil))))) .skip))))⟩
def f36 : EV.Fn := ⟨"there_is", 2, ["f", "k"], [], (.seq (.expr (.call 7 (.cons (.var 0) .nil))) (.seq (.expr (.call 10 (.cons (.var 0) (.cons (.var 1) .nil)))) (.seq (.ret (.call 23 (.cons (.call 32 (.cons (.var 0) (.cons (.var 1) (.cons (.lit (.int 0)) .nil)))) (.cons (.call 32 (.cons (.var 0) (.cons (.var 1) (.cons (.lit (.int 1)) .nil)))) .nil)))) .skip)))⟩
def f37 : EV.Fn := ⟨"for_all", 2, ["f", "k"], [], (.seq (.expr (.call 7 (.cons (.var 0) .nil))) (.seq (.expr (.call 10 (.cons (.var 0) (.cons (.var 1) .nil)))) (.seq (.ret (.call 21 (.cons (.call 32 (.cons (.var 0) (.cons (.var 1) (.cons (.lit (.int 0)) .nil)))) (.cons (.call 32 (.cons (.var 0) (.cons (.var 1) (.cons (.lit (.int 1)) .nil)))) .nil)))) .skip)))⟩
def f38 : EV.Fn := ⟨"moves", 2, ["f", "k"], [], (.seq (.expr (.call 7 (.cons (.var 0) .nil))) (.seq (.expr (.call 10 (.cons (.var 0) (.cons (.var 1) .nil)))) (.seq (.ret (.call 25 (.cons (.call 32 (.cons (.var 0) (.cons (.var 1) (.cons (.lit (.int 0)) .nil)))) (.cons (.call 32 (.cons (.var 0) (.cons (.var 1) (.cons (.lit (.int 1)) .nil)))) .nil)))) .skip)))⟩
def F39c0 : EV.SE := .comp (.var 4) (.nm 4) (.var 1) (.or (.not (.isi (.var 4) .tuple)) (.cmp .NotEq (.bi .len (.cons (.var 4) .nil)) (.lit (.int 2)))) [("one", 4)]
def F39c1 : EV.SE := .comp (.var 2) (.tp [2, 3]) (.var 1) .nop [("k", 2), ("v", 3)]
def F39c2 : EV.SE := .comp (.var 3) (.tp [2, 3]) (.var 1) (.not (.call 0 (.cons (.var 3) (.cons (.lit (.int 0)) (.cons (.lit (.int 1)) .nil))))) [("k", 2), ("v", 3)]
def F39b0 : EV.SS := (.seq (.asg 0 (.call 32 (.cons (.var 0) (.cons (.var 2) (.cons (.var 3) .nil))))) .skip)
def F39l0 : EV.SS := .forS (.tp [2, 3]) (.var 1) F39b0
def f39 : EV.Fn := ⟨"put_all", 2, ["f", "pairs", "k", "v", "one"], [], (.seq (.expr (.call 7 (.cons (.var 0) .nil))) (.seq (.cond (.or (.not (.isi (.var 1) .list)) F39c0) (.seq (.raise 2) .skip) .skip) (.seq (.cond (.or (.not (.call 2 (.cons F39c1 (.cons (.lit (.int 0)) (.cons (.bin .Sub (.ix (.var 0) (.lit (.int 0))) (.lit (.int 1))) .nil))))) F39c2) (.seq (.raise 2) .skip) .skip) (.seq F39l0 (.seq (.ret (.var 0)) .skip)))))⟩
def F40b0 : EV.SS := (.seq (.expr (.call 7 (.cons (.var 2) .nil))) .skip)
def F40l0 : EV.SS := .forS (.nm 2) (.var 1) F40b0
def F40c0 : EV.SE := .comp (.var 2) (.nm 2) (.var 1) (.cmp .NotEq (.ix (.var 2) (.lit (.int 0))) (.ix (.ix (.var 1) (.lit (.int 0))) (.lit (.int 0)))) [("row", 2)]
def F40c1 : EV.SE := .comp (.call 4 (.cons (.var 6) .nil)) (.nm 6) (.rng1 (.bi .len (.cons (.var 1) .nil))) (.cmp .Eq (.ix (.ix (.ix (.var 1) (.var 6)) (.lit (.int 1))) (.var 5)) (.lit (.str [49]))) [("i", 6)]
def F40b1 : EV.SS := (.seq (.expr (.mu .append 4 (.cons (.ix (.ix (.var 0) (.lit (.int 1))) (.bi .sum (.cons F40c1 .nil))) .nil))) .skip)
def F40l1 : EV.SS := .forS (.nm 5) (.rng1 (.call 4 (.cons (.var 3) .nil))) F40b1
def f40 : EV.Fn := ⟨"composed", 2, ["f", "rows", "row", "n", "found", "p", "i"], [], (.seq (.expr (.call 7 (.cons (.var 0) .nil))) (.seq (.cond (.or (.not (.isi (.var 1) .list)) (.cmp .NotEq (.bi .len (.cons (.var 1) .nil)) (.ix (.var 0) (.lit (.int 0))))) (.seq (.raise 2) .skip) .skip) (.seq F40l0 (.seq (.cond F40c0 (.seq (.raise 2) .skip) .skip) (.seq (.asg 3 (.ife (.var 1) (.ix (.ix (.var 1) (.lit (.int 0))) (.lit (.int 0))) (.lit (.int 0)))) (.seq (.asg 4 (.lst .nil)) (.seq F40l1 (.seq (.ret (.tup (.cons (.var 3) (.cons (.me .join (.lit (.str [])) (.cons (.var 4) .nil)) .nil)))) .skip))))))))⟩
def f41 : EV.Fn := ⟨"_law_mixed", 2, ["number", "k", "step"], [], (.seq (.asg 2 (.bin .Mod (.bin .Add (.bin .Add (.bin .Mult (.var 0) (.lit (.int 48271))) (.bin .Mult (.var 1) (.lit (.int 69621)))) (.lit (.int 12345))) (.lit (.int 2147483647)))) (.seq (.ret (.bin .Mod (.bin .Add (.bin .Mult (.var 2) (.bin .Add (.bin .FloorDiv (.var 2) (.lit (.int 65536))) (.lit (.int 3)))) (.var 1)) (.lit (.int 2147483647)))) .skip))⟩
def f42 : EV.Fn := ⟨"_law_numbers", 1, ["script", "numbers", "cell", "rest", "k"], [], (.seq (.asg 1 (.lst .nil)) (.seq (.forS (.nm 2) (.var 0) (.seq (.cond (.cmp .GtE (.var 2) (.bin .Pow (.lit (.int 10)) (.lit (.int 18)))) (.seq (.asg 3 (.var 2)) (.seq (.forS (.nm 4) (.rng1 (.lit (.int 60))) (.seq (.cond (.cmp .Gt (.var 3) (.lit (.int 0))) (.seq (.expr (.mu .append 1 (.cons (.bin .Mod (.var 3) (.lit (.int 1000000))) .nil))) (.seq (.asg 3 (.bin .FloorDiv (.var 3) (.lit (.int 1000000)))) .skip)) .skip) .skip)) .skip)) (.seq (.expr (.mu .append 1 (.cons (.bin .Mod (.var 2) (.lit (.int 1000000))) .nil))) (.seq (.forS (.nm 4) (.rng1 (.lit (.int 5))) (.seq (.expr (.mu .append 1 (.cons (.bin .Mod (.call 41 (.cons (.call 41 (.cons (.bin .Mod (.var 2) (.lit (.int 2147483647))) (.cons (.var 4) .nil))) (.cons (.bin .Add (.var 4) (.lit (.int 7))) .nil))) (.lit (.int 1000000))) .nil))) .skip)) .skip))) .skip)) (.seq (.ret (.var 1)) .skip)))⟩
def f43 : EV.Fn := ⟨"_law_draw", 2, ["draws", "many", "at", "first"], [true, false], (.seq (.asg 2 (.ix (.var 0) (.lit (.int 1)))) (.seq (.asgI 0 (.lit (.int 1)) (.bin .Add (.var 2) (.lit (.int 1)))) (.seq (.cond (.cmp .Lt (.var 2) (.bi .len (.cons (.ix (.var 0) (.lit (.int 0))) .nil))) (.seq (.ret (.bin .Mod (.ix (.ix (.var 0) (.lit (.int 0))) (.var 2)) (.var 1))) .skip) .skip) (.seq (.asg 3 (.bin .Add (.lit (.int 1)) (.var 2))) (.seq (.cond (.cmp .Gt (.bi .len (.cons (.ix (.var 0) (.lit (.int 0))) .nil)) (.lit (.int 0))) (.seq (.asg 3 (.bin .Add (.var 3) (.bin .Mult (.lit (.int 1009)) (.ix (.ix (.var 0) (.lit (.int 0))) (.lit (.int 0)))))) .skip) .skip) (.seq (.ret (.bin .Mod (.bin .FloorDiv (.call 41 (.cons (.call 41 (.cons (.var 3) (.cons (.var 2) .nil))) (.cons (.lit (.int 5)) .nil))) (.lit (.int 7))) (.var 1))) .skip))))))⟩
def f44 : EV.Fn := ⟨"_law_equal", 2, ["actual", "due"], [], (.seq (.cond (.isi (.var 1) .list) (.seq (.ret (.and (.isi (.var 0) .list) (.and (.cmp .Eq (.bi .len (.cons (.var 0) .nil)) (.bi .len (.cons (.var 1) .nil))) (.call 45 (.cons (.var 0) (.cons (.var 1) .nil)))))) .skip) .skip) (.seq (.cond (.isi (.var 1) .tuple) (.seq (.ret (.and (.isi (.var 0) .tuple) (.and (.cmp .Eq (.bi .len (.cons (.var 0) .nil)) (.bi .len (.cons (.var 1) .nil))) (.call 45 (.cons (.var 0) (.cons (.var 1) .nil)))))) .skip) .skip) (.seq (.cond (.isi (.var 1) .bool) (.seq (.ret (.and (.isi (.var 0) .bool) (.cmp .Eq (.var 0) (.var 1)))) .skip) .skip) (.seq (.cond (.isi (.var 1) .int) (.seq (.ret (.and (.isi (.var 0) .int) (.and (.not (.isi (.var 0) .bool)) (.cmp .Eq (.var 0) (.var 1))))) .skip) .skip) (.seq (.cond (.isi (.var 1) .str) (.seq (.ret (.and (.isi (.var 0) .str) (.cmp .Eq (.var 0) (.var 1)))) .skip) .skip) (.seq (.ret (.cmp .Is (.var 0) (.lit .non))) .skip))))))⟩
def f45 : EV.Fn := ⟨"_law_all_equal", 2, ["actual", "due", "k"], [], (.seq (.forS (.nm 2) (.rng1 (.bi .len (.cons (.var 1) .nil))) (.seq (.cond (.not (.call 44 (.cons (.ix (.var 0) (.var 2)) (.cons (.ix (.var 1) (.var 2)) .nil)))) (.seq (.ret (.lit (.bl false))) .skip) .skip) .skip)) (.seq (.ret (.lit (.bl true))) .skip))⟩
def f46 : EV.Fn := ⟨"_law_function", 2, ["draws", "n", "size", "pick", "keep", "small", "ones", "weights", "bound", "p", "k"], [true, false], (.seq (.asg 2 (.bin .LShift (.lit (.int 1)) (.var 1))) (.seq (.asg 3 (.call 43 (.cons (.var 0) (.cons (.lit (.int 4)) .nil)))) (.seq (.cond (.cmp .Eq (.var 3) (.lit (.int 0))) (.seq (.ret (.tup (.cons (.var 1) (.cons (.me .join (.lit (.str [])) (.cons (.comp (.bi .strF (.cons (.call 43 (.cons (.var 0) (.cons (.lit (.int 2)) .nil))) .nil)) (.nm 9) (.rng1 (.var 2)) .nop [("p", 9)]) .nil)) .nil)))) .skip) .skip) (.seq (.cond (.cmp .Eq (.var 3) (.lit (.int 1))) (.seq (.asg 6 (.comp (.call 43 (.cons (.var 0) (.cons (.var 2) .nil))) (.nm 10) (.rng1 (.call 43 (.cons (.var 0) (.cons (.lit (.int 5)) .nil)))) .nop [("k", 10)])) (.seq (.ret (.tup (.cons (.var 1) (.cons (.me .join (.lit (.str [])) (.cons (.comp (.ife (.cmp .In (.var 9) (.var 6)) (.lit (.str [49])) (.lit (.str [48]))) (.nm 9) (.rng1 (.var 2)) .nop [("p", 9)]) .nil)) .nil)))) .skip)) .skip) (.seq (.cond (.cmp .Eq (.var 3) (.lit (.int 2))) (.seq (.asg 7 (.comp (.bin .Sub (.call 43 (.cons (.var 0) (.cons (.lit (.int 5)) .nil))) (.lit (.int 1))) (.nm 10) (.rng1 (.var 1)) .nop [("k", 10)])) (.seq (.asg 8 (.call 43 (.cons (.var 0) (.cons (.lit (.int 5)) .nil)))) (.seq (.ret (.tup (.cons (.var 1) (.cons (.me .join (.lit (.str [])) (.cons (.comp (.ife (.cmp .GtE (.bi .sum (.cons (.comp (.ix (.var 7) (.var 10)) (.nm 10) (.rng1 (.var 1)) (.cmp .Eq (.bin .BitAnd (.bin .RShift (.var 9) (.var 10)) (.lit (.int 1))) (.lit (.int 1))) [("k", 10)]) .nil)) (.var 8)) (.lit (.str [49])) (.lit (.str [48]))) (.nm 9) (.rng1 (.var 2)) .nop [("p", 9)]) .nil)) .nil)))) .skip))) .skip) (.seq (.asg 4 (.call 43 (.cons (.var 0) (.cons (.var 2) .nil)))) (.seq (.asg 5 (.comp (.call 43 (.cons (.var 0) (.cons (.lit (.int 2)) .nil))) (.nm 9) (.rng1 (.var 2)) .nop [("p", 9)])) (.seq (.ret (.tup (.cons (.var 1) (.cons (.me .join (.lit (.str [])) (.cons (.comp (.bi .strF (.cons (.ix (.var 5) (.bin .BitAnd (.var 9) (.var 4))) .nil)) (.nm 9) (.rng1 (.var 2)) .nop [("p", 9)]) .nil)) .nil)))) .skip))))))))⟩
def f47 : EV.Fn := ⟨"_law_made", 2, ["n", "values", "value"], [], (.seq (.ret (.tup (.cons (.var 0) (.cons (.me .join (.lit (.str [])) (.cons (.comp (.ife (.var 2) (.lit (.str [49])) (.lit (.str [48]))) (.nm 2) (.var 1) .nop [("value", 2)]) .nil)) .nil)))) .skip)⟩
def f48 : EV.Fn := ⟨"_law_bit", 2, ["p", "k"], [], (.seq (.ret (.bin .BitAnd (.bin .RShift (.var 0) (.var 1)) (.lit (.int 1)))) .skip)⟩
def f49 : EV.Fn := ⟨"_law_ones", 1, ["p", "found"], [], (.seq (.asg 1 (.lit (.int 0))) (.seq (.whil (.cmp .Gt (.var 0) (.lit (.int 0))) (.seq (.asg 1 (.bin .Add (.var 1) (.bin .Mod (.var 0) (.lit (.int 2))))) (.seq (.asg 0 (.bin .FloorDiv (.var 0) (.lit (.int 2)))) .skip))) (.seq (.ret (.var 1)) .skip)))⟩
def F50b0 : EV.SS := (.seq (.asg 4 (.bin .Add (.bin .Sub (.var 4) (.bin .LShift (.call 48 (.cons (.var 4) (.cons (.var 5) .nil))) (.var 5))) (.bin .LShift (.var 6) (.var 5)))) .skip)
def F50l0 : EV.SS := .forS (.tp [5, 6]) (.var 1) F50b0
def F50b1 : EV.SS := (.seq (.asg 4 (.var 3)) (.seq F50l0 (.seq (.expr (.mu .append 2 (.cons (.cmp .Eq (.ix (.ix (.var 0) (.lit (.int 1))) (.var 4)) (.lit (.str [49]))) .nil))) .skip)))
def F50l1 : EV.SS := .forS (.nm 3) (.rng1 (.bi .len (.cons (.ix (.var 0) (.lit (.int 1))) .nil))) F50b1
def f50 : EV.Fn := ⟨"_law_put", 2, ["f", "pairs", "found", "p", "q", "k", "v"], [], (.seq (.asg 2 (.lst .nil)) (.seq F50l1 (.seq (.ret (.call 47 (.cons (.ix (.var 0) (.lit (.int 0))) (.cons (.var 2) .nil)))) .skip)))⟩
def F51c0 : EV.SE := .comp (.cmp .Eq (.var 29) (.lit (.str [49]))) (.nm 29) (.ix (.var 14) (.lit (.int 1))) .nop [("sign", 29)]
def F51c1 : EV.SE := .comp (.cmp .Eq (.var 29) (.lit (.str [49]))) (.nm 29) (.ix (.var 15) (.lit (.int 1))) .nop [("sign", 29)]
def F51c2 : EV.SE := .comp (.cmp .Eq (.var 29) (.lit (.str [49]))) (.nm 29) (.ix (.var 16) (.lit (.int 1))) .nop [("sign", 29)]
def F51c3 : EV.SE := .comp (.not (.var 30)) (.nm 30) (.var 17) .nop [("x", 30)]
def F51c4 : EV.SE := .comp (.and (.ix (.var 17) (.var 21)) (.ix (.var 18) (.var 21))) (.nm 21) (.var 4) .nop [("p", 21)]
def F51c5 : EV.SE := .comp (.or (.ix (.var 17) (.var 21)) (.ix (.var 18) (.var 21))) (.nm 21) (.var 4) .nop [("p", 21)]
def F51c6 : EV.SE := .comp (.cmp .NotEq (.ix (.var 17) (.var 21)) (.ix (.var 18) (.var 21))) (.nm 21) (.var 4) .nop [("p", 21)]
def F51c7 : EV.SE := .comp (.ife (.ix (.var 17) (.var 21)) (.ix (.var 18) (.var 21)) (.ix (.var 19) (.var 21))) (.nm 21) (.var 4) .nop [("p", 21)]
def F51b0 : EV.SS := (.seq (.cond (.not (.call 44 (.cons (.var 20) (.cons (.call 47 (.cons (.var 2) (.cons (.var 11) .nil))) .nil)))) (.seq (.ret (.lit (.bl false))) .skip) .skip) .skip)
def F51l0 : EV.SS := .forS (.tp [20, 11]) (.var 5) F51b0
def F51c8 : EV.SE := .comp (.var 21) (.nm 21) (.var 4) (.cmp .NotEq (.ix (.var 17) (.var 21)) (.ix (.var 18) (.var 21))) [("p", 21)]
def F51c9 : EV.SE := .comp (.var 21) (.nm 21) (.var 4) (.and (.ix (.var 17) (.var 21)) (.not (.ix (.var 18) (.var 21)))) [("p", 21)]
def F51c10 : EV.SE := .comp (.var 27) (.nm 27) (.var 4) (.ix (.var 17) (.var 27)) [("q", 27)]
def F51c11 : EV.SE := .comp (.cmp .Eq (.call 48 (.cons (.var 27) (.cons (.var 22) .nil))) (.lit (.int 1))) (.nm 27) (.var 4) .nop [("q", 27)]
def F51c12 : EV.SE := .comp (.ix (.ix (.var 14) (.lit (.int 1))) (.var 27)) (.nm 27) (.var 4) (.cmp .Eq (.call 48 (.cons (.var 27) (.cons (.var 22) .nil))) (.var 23)) [("q", 27)]
def F51c13 : EV.SE := .comp (.cmp .NotEq (.bin .Add (.ix (.var 24) (.var 27)) (.ix (.var 25) (.var 27))) (.lit (.str [48, 48]))) (.nm 27) (.var 4) .nop [("q", 27)]
def F51c14 : EV.SE := .comp (.cmp .Eq (.bin .Add (.ix (.var 24) (.var 27)) (.ix (.var 25) (.var 27))) (.lit (.str [49, 49]))) (.nm 27) (.var 4) .nop [("q", 27)]
def F51c15 : EV.SE := .comp (.cmp .NotEq (.ix (.var 24) (.var 27)) (.ix (.var 25) (.var 27))) (.nm 27) (.var 4) .nop [("q", 27)]
def F51b1 : EV.SS := (.seq (.cond (.not (.call 44 (.cons (.var 20) (.cons (.call 47 (.cons (.var 2) (.cons (.var 11) .nil))) .nil)))) (.seq (.ret (.lit (.bl false))) .skip) .skip) .skip)
def F51l1 : EV.SS := .forS (.tp [20, 11]) (.var 5) F51b1
def F51c16 : EV.SE := .comp (.tup (.cons (.var 28) (.cons (.call 43 (.cons (.var 1) (.cons (.lit (.int 2)) .nil))) .nil))) (.nm 28) (.rng1 (.var 2)) (.cmp .Eq (.call 43 (.cons (.var 1) (.cons (.lit (.int 2)) .nil))) (.lit (.int 0))) [("j", 28)]
def F51c17 : EV.SE := .comp (.call 46 (.cons (.var 1) (.cons (.var 9) .nil))) (.nm 28) (.rng1 (.var 2)) .nop [("j", 28)]
def F51c18 : EV.SE := .comp (.bin .LShift (.lit (.int 1)) (.var 28)) (.nm 28) (.rng1 (.var 2)) (.cmp .Eq (.ix (.ix (.ix (.var 10) (.var 28)) (.lit (.int 1))) (.var 27)) (.lit (.str [49]))) [("j", 28)]
def F51c19 : EV.SE := .comp (.cmp .Eq (.ix (.ix (.var 14) (.lit (.int 1))) (.bi .sum (.cons F51c18 .nil))) (.lit (.str [49]))) (.nm 27) (.rng1 (.bin .LShift (.lit (.int 1)) (.var 9))) .nop [("q", 27)]
def F51b2 : EV.SS := (.seq (.tryS (.seq (.expr (.call 20 (.cons (.var 12) .nil))) (.seq (.ret (.lit (.bl false))) .skip)) (.hnd 1 (.seq .skip .skip) .skip)) .skip)
def F51l2 : EV.SS := .forS (.nm 12) (.lst (.cons (.lit .non) (.cons (.tup (.cons (.var 2) .nil)) (.cons (.tup (.cons (.var 2) (.cons (.bin .Add (.ix (.var 14) (.lit (.int 1))) (.lit (.str [48]))) .nil))) (.cons (.tup (.cons (.lit (.int 11)) (.cons (.lit (.str [48])) .nil))) (.cons (.tup (.cons (.lit (.bl true)) (.cons (.lit (.str [48, 49])) .nil))) (.cons (.tup (.cons (.lit (.int 1)) (.cons (.lit (.str [48, 50])) .nil))) (.cons (.lst (.cons (.lit (.int 1)) (.cons (.lit (.str [48, 49])) .nil))) (.cons (.tup (.cons (.lit (.int 1)) (.cons (.lst (.cons (.lit (.str [48])) (.cons (.lit (.str [49])) .nil))) .nil))) (.cons (.tup (.cons (.una .USub (.lit (.int 1))) (.cons (.lit (.str [])) .nil))) .nil)))))))))) F51b2
def F51b3 : EV.SS := (.seq (.tryS (.seq (.expr (.callv 26 (.cons (.var 17) (.cons (.var 18) .nil)))) (.seq (.ret (.lit (.bl false))) .skip)) (.hnd 2 (.seq .skip .skip) .skip)) .skip)
def F51l3 : EV.SS := .forS (.tp [26, 17, 18]) (.var 13) F51b3
def f51 : EV.Fn := ⟨"law", 1, ["script", "draws", "n", "size", "places", "due", "differ", "ones", "pairs", "m", "rows", "values", "bad", "none", "f", "g", "h", "one", "two", "three", "told", "p", "k", "v", "zero", "full", "what", "q", "j", "sign", "x"], [], (.seq (.asg 1 (.lst (.cons (.call 42 (.cons (.var 0) .nil)) (.cons (.lit (.int 0)) .nil)))) (.seq (.asg 2 (.bin .Add (.lit (.int 1)) (.call 43 (.cons (.var 1) (.cons (.lit (.int 6)) .nil))))) (.seq (.asgT [14, 15, 16] (.tup (.cons (.call 46 (.cons (.var 1) (.cons (.var 2) .nil))) (.cons (.call 46 (.cons (.var 1) (.cons (.var 2) .nil))) (.cons (.call 46 (.cons (.var 1) (.cons (.var 2) .nil))) .nil))))) (.seq (.asg 3 (.bin .LShift (.lit (.int 1)) (.var 2))) (.seq (.asgT [17, 18, 19] (.tup (.cons F51c0 (.cons F51c1 (.cons F51c2 .nil))))) (.seq (.asg 4 (.lrng1 (.var 3))) (.seq (.asg 5 (.lst (.cons (.tup (.cons (.call 20 (.cons (.var 14) .nil)) (.cons F51c3 .nil))) (.cons (.tup (.cons (.call 22 (.cons (.var 14) (.cons (.var 15) .nil))) (.cons F51c4 .nil))) (.cons (.tup (.cons (.call 24 (.cons (.var 14) (.cons (.var 15) .nil))) (.cons F51c5 .nil))) (.cons (.tup (.cons (.call 26 (.cons (.var 14) (.cons (.var 15) .nil))) (.cons F51c6 .nil))) (.cons (.tup (.cons (.call 30 (.cons (.var 14) (.cons (.var 15) (.cons (.var 16) .nil)))) (.cons F51c7 .nil))) .nil))))))) (.seq F51l0 (.seq (.asg 6 F51c8) (.seq (.cond (.or (.not (.call 44 (.cons (.call 29 (.cons (.var 14) (.cons (.var 15) .nil))) (.cons (.ife (.cmp .Gt (.bi .len (.cons (.var 6) .nil)) (.lit (.int 0))) (.ix (.var 6) (.lit (.int 0))) (.lit .non)) .nil)))) (.not (.call 44 (.cons (.call 28 (.cons (.var 14) (.cons (.var 15) .nil))) (.cons (.cmp .Eq (.bi .len (.cons F51c9 .nil)) (.lit (.int 0))) .nil))))) (.seq (.ret (.lit (.bl false))) .skip) .skip) (.seq (.asgT [21, 22, 23] (.tup (.cons (.call 43 (.cons (.var 1) (.cons (.var 3) .nil))) (.cons (.call 43 (.cons (.var 1) (.cons (.var 2) .nil))) (.cons (.call 43 (.cons (.var 1) (.cons (.lit (.int 2)) .nil))) .nil))))) (.seq (.asg 7 F51c10) (.seq (.cond (.or (.not (.call 44 (.cons (.call 12 (.cons (.var 14) (.cons (.var 21) .nil))) (.cons (.ife (.ix (.var 17) (.var 21)) (.lit (.int 1)) (.lit (.int 0))) .nil)))) (.or (.not (.call 44 (.cons (.call 14 (.cons (.var 14) .nil)) (.cons (.var 7) .nil)))) (.not (.call 44 (.cons (.call 16 (.cons (.var 2) (.cons (.var 7) .nil))) (.cons (.var 14) .nil)))))) (.seq (.ret (.lit (.bl false))) .skip) .skip) (.seq (.cond (.or (.not (.call 44 (.cons (.call 33 (.cons (.var 14) (.cons (.var 22) (.cons (.var 23) .nil)))) (.cons (.call 50 (.cons (.var 14) (.cons (.lst (.cons (.tup (.cons (.var 22) (.cons (.var 23) .nil))) .nil)) .nil))) .nil)))) (.not (.call 44 (.cons (.call 17 (.cons (.var 2) (.cons (.var 23) .nil))) (.cons (.tup (.cons (.var 2) (.cons (.bin .Mult (.bi .strF (.cons (.var 23) .nil)) (.var 3)) .nil))) .nil))))) (.seq (.ret (.lit (.bl false))) .skip) .skip) (.seq (.cond (.not (.call 44 (.cons (.call 18 (.cons (.var 2) (.cons (.var 22) .nil))) (.cons (.call 47 (.cons (.var 2) (.cons F51c11 .nil))) .nil)))) (.seq (.ret (.lit (.bl false))) .skip) .skip) (.seq (.asgT [24, 25] (.tup (.cons (.ix (.call 50 (.cons (.var 14) (.cons (.lst (.cons (.tup (.cons (.var 22) (.cons (.lit (.int 0)) .nil))) .nil)) .nil))) (.lit (.int 1))) (.cons (.ix (.call 50 (.cons (.var 14) (.cons (.lst (.cons (.tup (.cons (.var 22) (.cons (.lit (.int 1)) .nil))) .nil)) .nil))) (.lit (.int 1))) .nil)))) (.seq (.cond (.not (.call 44 (.cons (.call 35 (.cons (.var 14) (.cons (.var 22) (.cons (.var 23) .nil)))) (.cons (.tup (.cons (.bin .Sub (.var 2) (.lit (.int 1))) (.cons (.me .join (.lit (.str [])) (.cons F51c12 .nil)) .nil))) .nil)))) (.seq (.ret (.lit (.bl false))) .skip) .skip) (.seq (.asg 5 (.lst (.cons (.tup (.cons (.call 36 (.cons (.var 14) (.cons (.var 22) .nil))) (.cons F51c13 .nil))) (.cons (.tup (.cons (.call 37 (.cons (.var 14) (.cons (.var 22) .nil))) (.cons F51c14 .nil))) (.cons (.tup (.cons (.call 38 (.cons (.var 14) (.cons (.var 22) .nil))) (.cons F51c15 .nil))) .nil))))) (.seq F51l1 (.seq (.asg 8 F51c16) (.seq (.cond (.not (.call 44 (.cons (.call 39 (.cons (.var 14) (.cons (.var 8) .nil))) (.cons (.call 50 (.cons (.var 14) (.cons (.var 8) .nil))) .nil)))) (.seq (.ret (.lit (.bl false))) .skip) .skip) (.seq (.asg 9 (.call 43 (.cons (.var 1) (.cons (.lit (.int 4)) .nil)))) (.seq (.asg 10 F51c17) (.seq (.asg 11 F51c19) (.seq (.cond (.not (.call 44 (.cons (.call 40 (.cons (.var 14) (.cons (.var 10) .nil))) (.cons (.call 47 (.cons (.var 9) (.cons (.var 11) .nil))) .nil)))) (.seq (.ret (.lit (.bl false))) .skip) .skip) (.seq F51l2 (.seq (.asg 13 (.lst (.cons (.tup (.cons (.fnv 12) (.cons (.var 14) (.cons (.var 3) .nil)))) (.cons (.tup (.cons (.fnv 12) (.cons (.var 14) (.cons (.lit (.bl true)) .nil)))) (.cons (.tup (.cons (.fnv 22) (.cons (.var 14) (.cons (.tup (.cons (.bin .Sub (.var 2) (.lit (.int 1))) (.cons (.bin .Mult (.lit (.str [48])) (.bin .FloorDiv (.var 3) (.lit (.int 2)))) .nil))) .nil)))) (.cons (.tup (.cons (.fnv 36) (.cons (.var 14) (.cons (.var 2) .nil)))) (.cons (.tup (.cons (.fnv 39) (.cons (.var 14) (.cons (.lst (.cons (.tup (.cons (.lit (.int 0)) (.cons (.lit (.int 2)) .nil))) .nil)) .nil)))) (.cons (.tup (.cons (.fnv 39) (.cons (.var 14) (.cons (.lst (.cons (.tup (.cons (.lit (.int 0)) (.cons (.lit (.int 1)) .nil))) (.cons (.tup (.cons (.lit (.int 0)) (.cons (.lit (.int 1)) .nil))) .nil))) .nil)))) (.cons (.tup (.cons (.fnv 16) (.cons (.lit (.int 1)) (.cons (.lst (.cons (.lit (.int 1)) (.cons (.lit (.int 0)) .nil))) .nil)))) (.cons (.tup (.cons (.fnv 18) (.cons (.var 2) (.cons (.var 2) .nil)))) .nil)))))))))) (.seq F51l3 (.seq (.ret (.lit (.bl true))) .skip)))))))))))))))))))))))))))))⟩
def G : EV.Cfg := ⟨[f0, f1, f2, f3, f4, f5, f6, f7, f8, f9, f10, f11, f12, f13, f14, f15, f16, f17, f18, f19, f20, f21, f22, f23, f24, f25, f26, f27, f28, f29, f30, f31, f32, f33, f34, f35, f36, f37, f38, f39, f40, f41, f42, f43, f44, f45, f46, f47, f48, f49, f50, f51], ["SwitchError", "BadFunction", "BadArgument"], [[true, false, false], [true, true, false], [true, false, true]], [("MOST_VARIABLES", .int 10)], 1000000⟩
@[simp] theorem go0 (call : Nat → List EV.Sl → EV.FR) (b0 b1 b2 : EV.Bor) (e : EV.Ev) : EV.goCall G call 0 [b0, b1, b2] e = (match EV.mkArgs e [] [b0, b1, b2] with | none => .st | some z => (call 0 z.1).res.put e z.2) := EV.go_pure call [b0, b1, b2] e rfl rfl rfl
@[simp] theorem go1 (call : Nat → List EV.Sl → EV.FR) (b0 b1 b2 : EV.Bor) (e : EV.Ev) : EV.goCall G call 1 [b0, b1, b2] e = (match EV.mkArgs e [] [b0, b1, b2] with | none => .st | some z => (call 1 z.1).res.put e z.2) := EV.go_pure call [b0, b1, b2] e rfl rfl rfl
@[simp] theorem go2 (call : Nat → List EV.Sl → EV.FR) (b0 b1 b2 : EV.Bor) (e : EV.Ev) : EV.goCall G call 2 [b0, b1, b2] e = (match EV.mkArgs e [] [b0, b1, b2] with | none => .st | some z => (call 2 z.1).res.put e z.2) := EV.go_pure call [b0, b1, b2] e rfl rfl rfl
@[simp] theorem go3 (call : Nat → List EV.Sl → EV.FR) (b0 b1 : EV.Bor) (e : EV.Ev) : EV.goCall G call 3 [b0, b1] e = (match EV.mkArgs e [] [b0, b1] with | none => .st | some z => (call 3 z.1).res.put e z.2) := EV.go_pure call [b0, b1] e rfl rfl rfl
@[simp] theorem go4 (call : Nat → List EV.Sl → EV.FR) (b0 : EV.Bor) (e : EV.Ev) : EV.goCall G call 4 [b0] e = (match EV.mkArgs e [] [b0] with | none => .st | some z => (call 4 z.1).res.put e z.2) := EV.go_pure call [b0] e rfl rfl rfl
@[simp] theorem go5 (call : Nat → List EV.Sl → EV.FR) (b0 b1 : EV.Bor) (e : EV.Ev) : EV.goCall G call 5 [b0, b1] e = (match EV.mkArgs e [] [b0, b1] with | none => .st | some z => (call 5 z.1).res.put e z.2) := EV.go_pure call [b0, b1] e rfl rfl rfl
@[simp] theorem go6 (call : Nat → List EV.Sl → EV.FR) (b0 : EV.Bor) (e : EV.Ev) : EV.goCall G call 6 [b0] e = (match EV.mkArgs e [] [b0] with | none => .st | some z => (call 6 z.1).res.put e z.2) := EV.go_pure call [b0] e rfl rfl rfl
@[simp] theorem go7 (call : Nat → List EV.Sl → EV.FR) (b0 : EV.Bor) (e : EV.Ev) : EV.goCall G call 7 [b0] e = (match EV.mkArgs e [] [b0] with | none => .st | some z => (call 7 z.1).res.put e z.2) := EV.go_pure call [b0] e rfl rfl rfl
@[simp] theorem go8 (call : Nat → List EV.Sl → EV.FR) (b0 b1 : EV.Bor) (e : EV.Ev) : EV.goCall G call 8 [b0, b1] e = (match EV.mkArgs e [] [b0, b1] with | none => .st | some z => (call 8 z.1).res.put e z.2) := EV.go_pure call [b0, b1] e rfl rfl rfl
@[simp] theorem go9 (call : Nat → List EV.Sl → EV.FR) (b0 b1 : EV.Bor) (e : EV.Ev) : EV.goCall G call 9 [b0, b1] e = (match EV.mkArgs e [] [b0, b1] with | none => .st | some z => (call 9 z.1).res.put e z.2) := EV.go_pure call [b0, b1] e rfl rfl rfl
@[simp] theorem go10 (call : Nat → List EV.Sl → EV.FR) (b0 b1 : EV.Bor) (e : EV.Ev) : EV.goCall G call 10 [b0, b1] e = (match EV.mkArgs e [] [b0, b1] with | none => .st | some z => (call 10 z.1).res.put e z.2) := EV.go_pure call [b0, b1] e rfl rfl rfl
@[simp] theorem go11 (call : Nat → List EV.Sl → EV.FR) (b0 : EV.Bor) (e : EV.Ev) : EV.goCall G call 11 [b0] e = (match EV.mkArgs e [] [b0] with | none => .st | some z => (call 11 z.1).res.put e z.2) := EV.go_pure call [b0] e rfl rfl rfl
@[simp] theorem go12 (call : Nat → List EV.Sl → EV.FR) (b0 b1 : EV.Bor) (e : EV.Ev) : EV.goCall G call 12 [b0, b1] e = (match EV.mkArgs e [] [b0, b1] with | none => .st | some z => (call 12 z.1).res.put e z.2) := EV.go_pure call [b0, b1] e rfl rfl rfl
@[simp] theorem go13 (call : Nat → List EV.Sl → EV.FR) (b0 : EV.Bor) (e : EV.Ev) : EV.goCall G call 13 [b0] e = (match EV.mkArgs e [] [b0] with | none => .st | some z => (call 13 z.1).res.put e z.2) := EV.go_pure call [b0] e rfl rfl rfl
@[simp] theorem go14 (call : Nat → List EV.Sl → EV.FR) (b0 : EV.Bor) (e : EV.Ev) : EV.goCall G call 14 [b0] e = (match EV.mkArgs e [] [b0] with | none => .st | some z => (call 14 z.1).res.put e z.2) := EV.go_pure call [b0] e rfl rfl rfl
@[simp] theorem go15 (call : Nat → List EV.Sl → EV.FR) (b0 b1 : EV.Bor) (e : EV.Ev) : EV.goCall G call 15 [b0, b1] e = (match EV.mkArgs e [] [b0, b1] with | none => .st | some z => (call 15 z.1).res.put e z.2) := EV.go_pure call [b0, b1] e rfl rfl rfl
@[simp] theorem go16 (call : Nat → List EV.Sl → EV.FR) (b0 b1 : EV.Bor) (e : EV.Ev) : EV.goCall G call 16 [b0, b1] e = (match EV.mkArgs e [] [b0, b1] with | none => .st | some z => (call 16 z.1).res.put e z.2) := EV.go_pure call [b0, b1] e rfl rfl rfl
@[simp] theorem go17 (call : Nat → List EV.Sl → EV.FR) (b0 b1 : EV.Bor) (e : EV.Ev) : EV.goCall G call 17 [b0, b1] e = (match EV.mkArgs e [] [b0, b1] with | none => .st | some z => (call 17 z.1).res.put e z.2) := EV.go_pure call [b0, b1] e rfl rfl rfl
@[simp] theorem go18 (call : Nat → List EV.Sl → EV.FR) (b0 b1 : EV.Bor) (e : EV.Ev) : EV.goCall G call 18 [b0, b1] e = (match EV.mkArgs e [] [b0, b1] with | none => .st | some z => (call 18 z.1).res.put e z.2) := EV.go_pure call [b0, b1] e rfl rfl rfl
@[simp] theorem go19 (call : Nat → List EV.Sl → EV.FR) (b0 : EV.Bor) (e : EV.Ev) : EV.goCall G call 19 [b0] e = (match EV.mkArgs e [] [b0] with | none => .st | some z => (call 19 z.1).res.put e z.2) := EV.go_pure call [b0] e rfl rfl rfl
@[simp] theorem go20 (call : Nat → List EV.Sl → EV.FR) (b0 : EV.Bor) (e : EV.Ev) : EV.goCall G call 20 [b0] e = (match EV.mkArgs e [] [b0] with | none => .st | some z => (call 20 z.1).res.put e z.2) := EV.go_pure call [b0] e rfl rfl rfl
@[simp] theorem go21 (call : Nat → List EV.Sl → EV.FR) (b0 b1 : EV.Bor) (e : EV.Ev) : EV.goCall G call 21 [b0, b1] e = (match EV.mkArgs e [] [b0, b1] with | none => .st | some z => (call 21 z.1).res.put e z.2) := EV.go_pure call [b0, b1] e rfl rfl rfl
@[simp] theorem go22 (call : Nat → List EV.Sl → EV.FR) (b0 b1 : EV.Bor) (e : EV.Ev) : EV.goCall G call 22 [b0, b1] e = (match EV.mkArgs e [] [b0, b1] with | none => .st | some z => (call 22 z.1).res.put e z.2) := EV.go_pure call [b0, b1] e rfl rfl rfl
@[simp] theorem go23 (call : Nat → List EV.Sl → EV.FR) (b0 b1 : EV.Bor) (e : EV.Ev) : EV.goCall G call 23 [b0, b1] e = (match EV.mkArgs e [] [b0, b1] with | none => .st | some z => (call 23 z.1).res.put e z.2) := EV.go_pure call [b0, b1] e rfl rfl rfl
@[simp] theorem go24 (call : Nat → List EV.Sl → EV.FR) (b0 b1 : EV.Bor) (e : EV.Ev) : EV.goCall G call 24 [b0, b1] e = (match EV.mkArgs e [] [b0, b1] with | none => .st | some z => (call 24 z.1).res.put e z.2) := EV.go_pure call [b0, b1] e rfl rfl rfl
@[simp] theorem go25 (call : Nat → List EV.Sl → EV.FR) (b0 b1 : EV.Bor) (e : EV.Ev) : EV.goCall G call 25 [b0, b1] e = (match EV.mkArgs e [] [b0, b1] with | none => .st | some z => (call 25 z.1).res.put e z.2) := EV.go_pure call [b0, b1] e rfl rfl rfl
@[simp] theorem go26 (call : Nat → List EV.Sl → EV.FR) (b0 b1 : EV.Bor) (e : EV.Ev) : EV.goCall G call 26 [b0, b1] e = (match EV.mkArgs e [] [b0, b1] with | none => .st | some z => (call 26 z.1).res.put e z.2) := EV.go_pure call [b0, b1] e rfl rfl rfl
@[simp] theorem go27 (call : Nat → List EV.Sl → EV.FR) (b0 b1 : EV.Bor) (e : EV.Ev) : EV.goCall G call 27 [b0, b1] e = (match EV.mkArgs e [] [b0, b1] with | none => .st | some z => (call 27 z.1).res.put e z.2) := EV.go_pure call [b0, b1] e rfl rfl rfl
@[simp] theorem go28 (call : Nat → List EV.Sl → EV.FR) (b0 b1 : EV.Bor) (e : EV.Ev) : EV.goCall G call 28 [b0, b1] e = (match EV.mkArgs e [] [b0, b1] with | none => .st | some z => (call 28 z.1).res.put e z.2) := EV.go_pure call [b0, b1] e rfl rfl rfl
@[simp] theorem go29 (call : Nat → List EV.Sl → EV.FR) (b0 b1 : EV.Bor) (e : EV.Ev) : EV.goCall G call 29 [b0, b1] e = (match EV.mkArgs e [] [b0, b1] with | none => .st | some z => (call 29 z.1).res.put e z.2) := EV.go_pure call [b0, b1] e rfl rfl rfl
@[simp] theorem go30 (call : Nat → List EV.Sl → EV.FR) (b0 b1 b2 : EV.Bor) (e : EV.Ev) : EV.goCall G call 30 [b0, b1, b2] e = (match EV.mkArgs e [] [b0, b1, b2] with | none => .st | some z => (call 30 z.1).res.put e z.2) := EV.go_pure call [b0, b1, b2] e rfl rfl rfl
@[simp] theorem go31 (call : Nat → List EV.Sl → EV.FR) (b0 b1 b2 : EV.Bor) (e : EV.Ev) : EV.goCall G call 31 [b0, b1, b2] e = (match EV.mkArgs e [] [b0, b1, b2] with | none => .st | some z => (call 31 z.1).res.put e z.2) := EV.go_pure call [b0, b1, b2] e rfl rfl rfl
@[simp] theorem go32 (call : Nat → List EV.Sl → EV.FR) (b0 b1 b2 : EV.Bor) (e : EV.Ev) : EV.goCall G call 32 [b0, b1, b2] e = (match EV.mkArgs e [] [b0, b1, b2] with | none => .st | some z => (call 32 z.1).res.put e z.2) := EV.go_pure call [b0, b1, b2] e rfl rfl rfl
@[simp] theorem go33 (call : Nat → List EV.Sl → EV.FR) (b0 b1 b2 : EV.Bor) (e : EV.Ev) : EV.goCall G call 33 [b0, b1, b2] e = (match EV.mkArgs e [] [b0, b1, b2] with | none => .st | some z => (call 33 z.1).res.put e z.2) := EV.go_pure call [b0, b1, b2] e rfl rfl rfl
@[simp] theorem go34 (call : Nat → List EV.Sl → EV.FR) (b0 b1 b2 : EV.Bor) (e : EV.Ev) : EV.goCall G call 34 [b0, b1, b2] e = (match EV.mkArgs e [] [b0, b1, b2] with | none => .st | some z => (call 34 z.1).res.put e z.2) := EV.go_pure call [b0, b1, b2] e rfl rfl rfl
@[simp] theorem go35 (call : Nat → List EV.Sl → EV.FR) (b0 b1 b2 : EV.Bor) (e : EV.Ev) : EV.goCall G call 35 [b0, b1, b2] e = (match EV.mkArgs e [] [b0, b1, b2] with | none => .st | some z => (call 35 z.1).res.put e z.2) := EV.go_pure call [b0, b1, b2] e rfl rfl rfl
@[simp] theorem go36 (call : Nat → List EV.Sl → EV.FR) (b0 b1 : EV.Bor) (e : EV.Ev) : EV.goCall G call 36 [b0, b1] e = (match EV.mkArgs e [] [b0, b1] with | none => .st | some z => (call 36 z.1).res.put e z.2) := EV.go_pure call [b0, b1] e rfl rfl rfl
@[simp] theorem go37 (call : Nat → List EV.Sl → EV.FR) (b0 b1 : EV.Bor) (e : EV.Ev) : EV.goCall G call 37 [b0, b1] e = (match EV.mkArgs e [] [b0, b1] with | none => .st | some z => (call 37 z.1).res.put e z.2) := EV.go_pure call [b0, b1] e rfl rfl rfl
@[simp] theorem go38 (call : Nat → List EV.Sl → EV.FR) (b0 b1 : EV.Bor) (e : EV.Ev) : EV.goCall G call 38 [b0, b1] e = (match EV.mkArgs e [] [b0, b1] with | none => .st | some z => (call 38 z.1).res.put e z.2) := EV.go_pure call [b0, b1] e rfl rfl rfl
@[simp] theorem go39 (call : Nat → List EV.Sl → EV.FR) (b0 b1 : EV.Bor) (e : EV.Ev) : EV.goCall G call 39 [b0, b1] e = (match EV.mkArgs e [] [b0, b1] with | none => .st | some z => (call 39 z.1).res.put e z.2) := EV.go_pure call [b0, b1] e rfl rfl rfl
@[simp] theorem go40 (call : Nat → List EV.Sl → EV.FR) (b0 b1 : EV.Bor) (e : EV.Ev) : EV.goCall G call 40 [b0, b1] e = (match EV.mkArgs e [] [b0, b1] with | none => .st | some z => (call 40 z.1).res.put e z.2) := EV.go_pure call [b0, b1] e rfl rfl rfl
@[simp] theorem go41 (call : Nat → List EV.Sl → EV.FR) (b0 b1 : EV.Bor) (e : EV.Ev) : EV.goCall G call 41 [b0, b1] e = (match EV.mkArgs e [] [b0, b1] with | none => .st | some z => (call 41 z.1).res.put e z.2) := EV.go_pure call [b0, b1] e rfl rfl rfl
@[simp] theorem go42 (call : Nat → List EV.Sl → EV.FR) (b0 : EV.Bor) (e : EV.Ev) : EV.goCall G call 42 [b0] e = (match EV.mkArgs e [] [b0] with | none => .st | some z => (call 42 z.1).res.put e z.2) := EV.go_pure call [b0] e rfl rfl rfl
@[simp] theorem go43 (call : Nat → List EV.Sl → EV.FR) (b0 b1 : EV.Bor) (e : EV.Ev) : EV.goCall G call 43 [b0, b1] e = EV.doCall call [true, false] 43 [b0, b1] e := rfl
@[simp] theorem go44 (call : Nat → List EV.Sl → EV.FR) (b0 b1 : EV.Bor) (e : EV.Ev) : EV.goCall G call 44 [b0, b1] e = (match EV.mkArgs e [] [b0, b1] with | none => .st | some z => (call 44 z.1).res.put e z.2) := EV.go_pure call [b0, b1] e rfl rfl rfl
@[simp] theorem go45 (call : Nat → List EV.Sl → EV.FR) (b0 b1 : EV.Bor) (e : EV.Ev) : EV.goCall G call 45 [b0, b1] e = (match EV.mkArgs e [] [b0, b1] with | none => .st | some z => (call 45 z.1).res.put e z.2) := EV.go_pure call [b0, b1] e rfl rfl rfl
@[simp] theorem go46 (call : Nat → List EV.Sl → EV.FR) (b0 b1 : EV.Bor) (e : EV.Ev) : EV.goCall G call 46 [b0, b1] e = EV.doCall call [true, false] 46 [b0, b1] e := rfl
@[simp] theorem go47 (call : Nat → List EV.Sl → EV.FR) (b0 b1 : EV.Bor) (e : EV.Ev) : EV.goCall G call 47 [b0, b1] e = (match EV.mkArgs e [] [b0, b1] with | none => .st | some z => (call 47 z.1).res.put e z.2) := EV.go_pure call [b0, b1] e rfl rfl rfl
@[simp] theorem go48 (call : Nat → List EV.Sl → EV.FR) (b0 b1 : EV.Bor) (e : EV.Ev) : EV.goCall G call 48 [b0, b1] e = (match EV.mkArgs e [] [b0, b1] with | none => .st | some z => (call 48 z.1).res.put e z.2) := EV.go_pure call [b0, b1] e rfl rfl rfl
@[simp] theorem go49 (call : Nat → List EV.Sl → EV.FR) (b0 : EV.Bor) (e : EV.Ev) : EV.goCall G call 49 [b0] e = (match EV.mkArgs e [] [b0] with | none => .st | some z => (call 49 z.1).res.put e z.2) := EV.go_pure call [b0] e rfl rfl rfl
@[simp] theorem go50 (call : Nat → List EV.Sl → EV.FR) (b0 b1 : EV.Bor) (e : EV.Ev) : EV.goCall G call 50 [b0, b1] e = (match EV.mkArgs e [] [b0, b1] with | none => .st | some z => (call 50 z.1).res.put e z.2) := EV.go_pure call [b0, b1] e rfl rfl rfl
@[simp] theorem go51 (call : Nat → List EV.Sl → EV.FR) (b0 : EV.Bor) (e : EV.Ev) : EV.goCall G call 51 [b0] e = (match EV.mkArgs e [] [b0] with | none => .st | some z => (call 51 z.1).res.put e z.2) := EV.go_pure call [b0] e rfl rfl rfl
@[simp] theorem F2c0_b (call : Nat → List EV.Sl → EV.FR) (e : EV.Ev) : (EV.evR G call F2c0).b e = ((EV.evR G call F2c0).f e).bind fun x e1 => .ok (.dat x.1) e1 := rfl
@[simp] theorem F2c0_t (call : Nat → List EV.Sl → EV.FR) (e : EV.Ev) : (EV.evR G call F2c0).t e = ((EV.evR G call F2c0).f e).bind fun x e1 => EV.R.of (EV.truD x.1) e1 := rfl
@[simp] theorem F2c0_i (call : Nat → List EV.Sl → EV.FR) (e : EV.Ev) : (EV.evR G call F2c0).i e = ((EV.evR G call F2c0).f e).bind fun x e1 => EV.R.of (EV.itemsD x.1) e1 := rfl
@[simp] theorem F2c1_b (call : Nat → List EV.Sl → EV.FR) (e : EV.Ev) : (EV.evR G call F2c1).b e = ((EV.evR G call F2c1).f e).bind fun x e1 => .ok (.dat x.1) e1 := rfl
@[simp] theorem F2c1_t (call : Nat → List EV.Sl → EV.FR) (e : EV.Ev) : (EV.evR G call F2c1).t e = ((EV.evR G call F2c1).f e).bind fun x e1 => EV.R.of (EV.truD x.1) e1 := rfl
@[simp] theorem F2c1_i (call : Nat → List EV.Sl → EV.FR) (e : EV.Ev) : (EV.evR G call F2c1).i e = ((EV.evR G call F2c1).f e).bind fun x e1 => EV.R.of (EV.itemsD x.1) e1 := rfl
@[simp] theorem F13c0_b (call : Nat → List EV.Sl → EV.FR) (e : EV.Ev) : (EV.evR G call F13c0).b e = ((EV.evR G call F13c0).f e).bind fun x e1 => .ok (.dat x.1) e1 := rfl
@[simp] theorem F13c0_t (call : Nat → List EV.Sl → EV.FR) (e : EV.Ev) : (EV.evR G call F13c0).t e = ((EV.evR G call F13c0).f e).bind fun x e1 => EV.R.of (EV.truD x.1) e1 := rfl
@[simp] theorem F13c0_i (call : Nat → List EV.Sl → EV.FR) (e : EV.Ev) : (EV.evR G call F13c0).i e = ((EV.evR G call F13c0).f e).bind fun x e1 => EV.R.of (EV.itemsD x.1) e1 := rfl
@[simp] theorem F16c0_b (call : Nat → List EV.Sl → EV.FR) (e : EV.Ev) : (EV.evR G call F16c0).b e = ((EV.evR G call F16c0).f e).bind fun x e1 => .ok (.dat x.1) e1 := rfl
@[simp] theorem F16c0_t (call : Nat → List EV.Sl → EV.FR) (e : EV.Ev) : (EV.evR G call F16c0).t e = ((EV.evR G call F16c0).f e).bind fun x e1 => EV.R.of (EV.truD x.1) e1 := rfl
@[simp] theorem F16c0_i (call : Nat → List EV.Sl → EV.FR) (e : EV.Ev) : (EV.evR G call F16c0).i e = ((EV.evR G call F16c0).f e).bind fun x e1 => EV.R.of (EV.itemsD x.1) e1 := rfl
@[simp] theorem F16c1_b (call : Nat → List EV.Sl → EV.FR) (e : EV.Ev) : (EV.evR G call F16c1).b e = ((EV.evR G call F16c1).f e).bind fun x e1 => .ok (.dat x.1) e1 := rfl
@[simp] theorem F16c1_t (call : Nat → List EV.Sl → EV.FR) (e : EV.Ev) : (EV.evR G call F16c1).t e = ((EV.evR G call F16c1).f e).bind fun x e1 => EV.R.of (EV.truD x.1) e1 := rfl
@[simp] theorem F16c1_i (call : Nat → List EV.Sl → EV.FR) (e : EV.Ev) : (EV.evR G call F16c1).i e = ((EV.evR G call F16c1).f e).bind fun x e1 => EV.R.of (EV.itemsD x.1) e1 := rfl
@[simp] theorem F18c0_b (call : Nat → List EV.Sl → EV.FR) (e : EV.Ev) : (EV.evR G call F18c0).b e = ((EV.evR G call F18c0).f e).bind fun x e1 => .ok (.dat x.1) e1 := rfl
@[simp] theorem F18c0_t (call : Nat → List EV.Sl → EV.FR) (e : EV.Ev) : (EV.evR G call F18c0).t e = ((EV.evR G call F18c0).f e).bind fun x e1 => EV.R.of (EV.truD x.1) e1 := rfl
@[simp] theorem F18c0_i (call : Nat → List EV.Sl → EV.FR) (e : EV.Ev) : (EV.evR G call F18c0).i e = ((EV.evR G call F18c0).f e).bind fun x e1 => EV.R.of (EV.itemsD x.1) e1 := rfl
@[simp] theorem F19c0_b (call : Nat → List EV.Sl → EV.FR) (e : EV.Ev) : (EV.evR G call F19c0).b e = ((EV.evR G call F19c0).f e).bind fun x e1 => .ok (.dat x.1) e1 := rfl
@[simp] theorem F19c0_t (call : Nat → List EV.Sl → EV.FR) (e : EV.Ev) : (EV.evR G call F19c0).t e = ((EV.evR G call F19c0).f e).bind fun x e1 => EV.R.of (EV.truD x.1) e1 := rfl
@[simp] theorem F19c0_i (call : Nat → List EV.Sl → EV.FR) (e : EV.Ev) : (EV.evR G call F19c0).i e = ((EV.evR G call F19c0).f e).bind fun x e1 => EV.R.of (EV.itemsD x.1) e1 := rfl
@[simp] theorem F21c0_b (call : Nat → List EV.Sl → EV.FR) (e : EV.Ev) : (EV.evR G call F21c0).b e = ((EV.evR G call F21c0).f e).bind fun x e1 => .ok (.dat x.1) e1 := rfl
@[simp] theorem F21c0_t (call : Nat → List EV.Sl → EV.FR) (e : EV.Ev) : (EV.evR G call F21c0).t e = ((EV.evR G call F21c0).f e).bind fun x e1 => EV.R.of (EV.truD x.1) e1 := rfl
@[simp] theorem F21c0_i (call : Nat → List EV.Sl → EV.FR) (e : EV.Ev) : (EV.evR G call F21c0).i e = ((EV.evR G call F21c0).f e).bind fun x e1 => EV.R.of (EV.itemsD x.1) e1 := rfl
@[simp] theorem F23c0_b (call : Nat → List EV.Sl → EV.FR) (e : EV.Ev) : (EV.evR G call F23c0).b e = ((EV.evR G call F23c0).f e).bind fun x e1 => .ok (.dat x.1) e1 := rfl
@[simp] theorem F23c0_t (call : Nat → List EV.Sl → EV.FR) (e : EV.Ev) : (EV.evR G call F23c0).t e = ((EV.evR G call F23c0).f e).bind fun x e1 => EV.R.of (EV.truD x.1) e1 := rfl
@[simp] theorem F23c0_i (call : Nat → List EV.Sl → EV.FR) (e : EV.Ev) : (EV.evR G call F23c0).i e = ((EV.evR G call F23c0).f e).bind fun x e1 => EV.R.of (EV.itemsD x.1) e1 := rfl
@[simp] theorem F25c0_b (call : Nat → List EV.Sl → EV.FR) (e : EV.Ev) : (EV.evR G call F25c0).b e = ((EV.evR G call F25c0).f e).bind fun x e1 => .ok (.dat x.1) e1 := rfl
@[simp] theorem F25c0_t (call : Nat → List EV.Sl → EV.FR) (e : EV.Ev) : (EV.evR G call F25c0).t e = ((EV.evR G call F25c0).f e).bind fun x e1 => EV.R.of (EV.truD x.1) e1 := rfl
@[simp] theorem F25c0_i (call : Nat → List EV.Sl → EV.FR) (e : EV.Ev) : (EV.evR G call F25c0).i e = ((EV.evR G call F25c0).f e).bind fun x e1 => EV.R.of (EV.itemsD x.1) e1 := rfl
@[simp] theorem F27c0_b (call : Nat → List EV.Sl → EV.FR) (e : EV.Ev) : (EV.evR G call F27c0).b e = ((EV.evR G call F27c0).f e).bind fun x e1 => .ok (.dat x.1) e1 := rfl
@[simp] theorem F27c0_t (call : Nat → List EV.Sl → EV.FR) (e : EV.Ev) : (EV.evR G call F27c0).t e = ((EV.evR G call F27c0).f e).bind fun x e1 => EV.R.of (EV.truD x.1) e1 := rfl
@[simp] theorem F27c0_i (call : Nat → List EV.Sl → EV.FR) (e : EV.Ev) : (EV.evR G call F27c0).i e = ((EV.evR G call F27c0).f e).bind fun x e1 => EV.R.of (EV.itemsD x.1) e1 := rfl
@[simp] theorem F29c0_b (call : Nat → List EV.Sl → EV.FR) (e : EV.Ev) : (EV.evR G call F29c0).b e = ((EV.evR G call F29c0).f e).bind fun x e1 => .ok (.dat x.1) e1 := rfl
@[simp] theorem F29c0_t (call : Nat → List EV.Sl → EV.FR) (e : EV.Ev) : (EV.evR G call F29c0).t e = ((EV.evR G call F29c0).f e).bind fun x e1 => EV.R.of (EV.truD x.1) e1 := rfl
@[simp] theorem F29c0_i (call : Nat → List EV.Sl → EV.FR) (e : EV.Ev) : (EV.evR G call F29c0).i e = ((EV.evR G call F29c0).f e).bind fun x e1 => EV.R.of (EV.itemsD x.1) e1 := rfl
@[simp] theorem F30c0_b (call : Nat → List EV.Sl → EV.FR) (e : EV.Ev) : (EV.evR G call F30c0).b e = ((EV.evR G call F30c0).f e).bind fun x e1 => .ok (.dat x.1) e1 := rfl
@[simp] theorem F30c0_t (call : Nat → List EV.Sl → EV.FR) (e : EV.Ev) : (EV.evR G call F30c0).t e = ((EV.evR G call F30c0).f e).bind fun x e1 => EV.R.of (EV.truD x.1) e1 := rfl
@[simp] theorem F30c0_i (call : Nat → List EV.Sl → EV.FR) (e : EV.Ev) : (EV.evR G call F30c0).i e = ((EV.evR G call F30c0).f e).bind fun x e1 => EV.R.of (EV.itemsD x.1) e1 := rfl
@[simp] theorem F32c0_b (call : Nat → List EV.Sl → EV.FR) (e : EV.Ev) : (EV.evR G call F32c0).b e = ((EV.evR G call F32c0).f e).bind fun x e1 => .ok (.dat x.1) e1 := rfl
@[simp] theorem F32c0_t (call : Nat → List EV.Sl → EV.FR) (e : EV.Ev) : (EV.evR G call F32c0).t e = ((EV.evR G call F32c0).f e).bind fun x e1 => EV.R.of (EV.truD x.1) e1 := rfl
@[simp] theorem F32c0_i (call : Nat → List EV.Sl → EV.FR) (e : EV.Ev) : (EV.evR G call F32c0).i e = ((EV.evR G call F32c0).f e).bind fun x e1 => EV.R.of (EV.itemsD x.1) e1 := rfl
@[simp] theorem F34c0_b (call : Nat → List EV.Sl → EV.FR) (e : EV.Ev) : (EV.evR G call F34c0).b e = ((EV.evR G call F34c0).f e).bind fun x e1 => .ok (.dat x.1) e1 := rfl
@[simp] theorem F34c0_t (call : Nat → List EV.Sl → EV.FR) (e : EV.Ev) : (EV.evR G call F34c0).t e = ((EV.evR G call F34c0).f e).bind fun x e1 => EV.R.of (EV.truD x.1) e1 := rfl
@[simp] theorem F34c0_i (call : Nat → List EV.Sl → EV.FR) (e : EV.Ev) : (EV.evR G call F34c0).i e = ((EV.evR G call F34c0).f e).bind fun x e1 => EV.R.of (EV.itemsD x.1) e1 := rfl
@[simp] theorem F39c0_b (call : Nat → List EV.Sl → EV.FR) (e : EV.Ev) : (EV.evR G call F39c0).b e = ((EV.evR G call F39c0).f e).bind fun x e1 => .ok (.dat x.1) e1 := rfl
@[simp] theorem F39c0_t (call : Nat → List EV.Sl → EV.FR) (e : EV.Ev) : (EV.evR G call F39c0).t e = ((EV.evR G call F39c0).f e).bind fun x e1 => EV.R.of (EV.truD x.1) e1 := rfl
@[simp] theorem F39c0_i (call : Nat → List EV.Sl → EV.FR) (e : EV.Ev) : (EV.evR G call F39c0).i e = ((EV.evR G call F39c0).f e).bind fun x e1 => EV.R.of (EV.itemsD x.1) e1 := rfl
@[simp] theorem F39c1_b (call : Nat → List EV.Sl → EV.FR) (e : EV.Ev) : (EV.evR G call F39c1).b e = ((EV.evR G call F39c1).f e).bind fun x e1 => .ok (.dat x.1) e1 := rfl
@[simp] theorem F39c1_t (call : Nat → List EV.Sl → EV.FR) (e : EV.Ev) : (EV.evR G call F39c1).t e = ((EV.evR G call F39c1).f e).bind fun x e1 => EV.R.of (EV.truD x.1) e1 := rfl
@[simp] theorem F39c1_i (call : Nat → List EV.Sl → EV.FR) (e : EV.Ev) : (EV.evR G call F39c1).i e = ((EV.evR G call F39c1).f e).bind fun x e1 => EV.R.of (EV.itemsD x.1) e1 := rfl
@[simp] theorem F39c2_b (call : Nat → List EV.Sl → EV.FR) (e : EV.Ev) : (EV.evR G call F39c2).b e = ((EV.evR G call F39c2).f e).bind fun x e1 => .ok (.dat x.1) e1 := rfl
@[simp] theorem F39c2_t (call : Nat → List EV.Sl → EV.FR) (e : EV.Ev) : (EV.evR G call F39c2).t e = ((EV.evR G call F39c2).f e).bind fun x e1 => EV.R.of (EV.truD x.1) e1 := rfl
@[simp] theorem F39c2_i (call : Nat → List EV.Sl → EV.FR) (e : EV.Ev) : (EV.evR G call F39c2).i e = ((EV.evR G call F39c2).f e).bind fun x e1 => EV.R.of (EV.itemsD x.1) e1 := rfl
@[simp] theorem F40c0_b (call : Nat → List EV.Sl → EV.FR) (e : EV.Ev) : (EV.evR G call F40c0).b e = ((EV.evR G call F40c0).f e).bind fun x e1 => .ok (.dat x.1) e1 := rfl
@[simp] theorem F40c0_t (call : Nat → List EV.Sl → EV.FR) (e : EV.Ev) : (EV.evR G call F40c0).t e = ((EV.evR G call F40c0).f e).bind fun x e1 => EV.R.of (EV.truD x.1) e1 := rfl
@[simp] theorem F40c0_i (call : Nat → List EV.Sl → EV.FR) (e : EV.Ev) : (EV.evR G call F40c0).i e = ((EV.evR G call F40c0).f e).bind fun x e1 => EV.R.of (EV.itemsD x.1) e1 := rfl
@[simp] theorem F40c1_b (call : Nat → List EV.Sl → EV.FR) (e : EV.Ev) : (EV.evR G call F40c1).b e = ((EV.evR G call F40c1).f e).bind fun x e1 => .ok (.dat x.1) e1 := rfl
@[simp] theorem F40c1_t (call : Nat → List EV.Sl → EV.FR) (e : EV.Ev) : (EV.evR G call F40c1).t e = ((EV.evR G call F40c1).f e).bind fun x e1 => EV.R.of (EV.truD x.1) e1 := rfl
@[simp] theorem F40c1_i (call : Nat → List EV.Sl → EV.FR) (e : EV.Ev) : (EV.evR G call F40c1).i e = ((EV.evR G call F40c1).f e).bind fun x e1 => EV.R.of (EV.itemsD x.1) e1 := rfl
@[simp] theorem F51c0_b (call : Nat → List EV.Sl → EV.FR) (e : EV.Ev) : (EV.evR G call F51c0).b e = ((EV.evR G call F51c0).f e).bind fun x e1 => .ok (.dat x.1) e1 := rfl
@[simp] theorem F51c0_t (call : Nat → List EV.Sl → EV.FR) (e : EV.Ev) : (EV.evR G call F51c0).t e = ((EV.evR G call F51c0).f e).bind fun x e1 => EV.R.of (EV.truD x.1) e1 := rfl
@[simp] theorem F51c0_i (call : Nat → List EV.Sl → EV.FR) (e : EV.Ev) : (EV.evR G call F51c0).i e = ((EV.evR G call F51c0).f e).bind fun x e1 => EV.R.of (EV.itemsD x.1) e1 := rfl
@[simp] theorem F51c1_b (call : Nat → List EV.Sl → EV.FR) (e : EV.Ev) : (EV.evR G call F51c1).b e = ((EV.evR G call F51c1).f e).bind fun x e1 => .ok (.dat x.1) e1 := rfl
@[simp] theorem F51c1_t (call : Nat → List EV.Sl → EV.FR) (e : EV.Ev) : (EV.evR G call F51c1).t e = ((EV.evR G call F51c1).f e).bind fun x e1 => EV.R.of (EV.truD x.1) e1 := rfl
@[simp] theorem F51c1_i (call : Nat → List EV.Sl → EV.FR) (e : EV.Ev) : (EV.evR G call F51c1).i e = ((EV.evR G call F51c1).f e).bind fun x e1 => EV.R.of (EV.itemsD x.1) e1 := rfl
@[simp] theorem F51c2_b (call : Nat → List EV.Sl → EV.FR) (e : EV.Ev) : (EV.evR G call F51c2).b e = ((EV.evR G call F51c2).f e).bind fun x e1 => .ok (.dat x.1) e1 := rfl
@[simp] theorem F51c2_t (call : Nat → List EV.Sl → EV.FR) (e : EV.Ev) : (EV.evR G call F51c2).t e = ((EV.evR G call F51c2).f e).bind fun x e1 => EV.R.of (EV.truD x.1) e1 := rfl
@[simp] theorem F51c2_i (call : Nat → List EV.Sl → EV.FR) (e : EV.Ev) : (EV.evR G call F51c2).i e = ((EV.evR G call F51c2).f e).bind fun x e1 => EV.R.of (EV.itemsD x.1) e1 := rfl
@[simp] theorem F51c3_b (call : Nat → List EV.Sl → EV.FR) (e : EV.Ev) : (EV.evR G call F51c3).b e = ((EV.evR G call F51c3).f e).bind fun x e1 => .ok (.dat x.1) e1 := rfl
@[simp] theorem F51c3_t (call : Nat → List EV.Sl → EV.FR) (e : EV.Ev) : (EV.evR G call F51c3).t e = ((EV.evR G call F51c3).f e).bind fun x e1 => EV.R.of (EV.truD x.1) e1 := rfl
@[simp] theorem F51c3_i (call : Nat → List EV.Sl → EV.FR) (e : EV.Ev) : (EV.evR G call F51c3).i e = ((EV.evR G call F51c3).f e).bind fun x e1 => EV.R.of (EV.itemsD x.1) e1 := rfl
@[simp] theorem F51c4_b (call : Nat → List EV.Sl → EV.FR) (e : EV.Ev) : (EV.evR G call F51c4).b e = ((EV.evR G call F51c4).f e).bind fun x e1 => .ok (.dat x.1) e1 := rfl
@[simp] theorem F51c4_t (call : Nat → List EV.Sl → EV.FR) (e : EV.Ev) : (EV.evR G call F51c4).t e = ((EV.evR G call F51c4).f e).bind fun x e1 => EV.R.of (EV.truD x.1) e1 := rfl
@[simp] theorem F51c4_i (call : Nat → List EV.Sl → EV.FR) (e : EV.Ev) : (EV.evR G call F51c4).i e = ((EV.evR G call F51c4).f e).bind fun x e1 => EV.R.of (EV.itemsD x.1) e1 := rfl
@[simp] theorem F51c5_b (call : Nat → List EV.Sl → EV.FR) (e : EV.Ev) : (EV.evR G call F51c5).b e = ((EV.evR G call F51c5).f e).bind fun x e1 => .ok (.dat x.1) e1 := rfl
@[simp] theorem F51c5_t (call : Nat → List EV.Sl → EV.FR) (e : EV.Ev) : (EV.evR G call F51c5).t e = ((EV.evR G call F51c5).f e).bind fun x e1 => EV.R.of (EV.truD x.1) e1 := rfl
@[simp] theorem F51c5_i (call : Nat → List EV.Sl → EV.FR) (e : EV.Ev) : (EV.evR G call F51c5).i e = ((EV.evR G call F51c5).f e).bind fun x e1 => EV.R.of (EV.itemsD x.1) e1 := rfl
@[simp] theorem F51c6_b (call : Nat → List EV.Sl → EV.FR) (e : EV.Ev) : (EV.evR G call F51c6).b e = ((EV.evR G call F51c6).f e).bind fun x e1 => .ok (.dat x.1) e1 := rfl
@[simp] theorem F51c6_t (call : Nat → List EV.Sl → EV.FR) (e : EV.Ev) : (EV.evR G call F51c6).t e = ((EV.evR G call F51c6).f e).bind fun x e1 => EV.R.of (EV.truD x.1) e1 := rfl
@[simp] theorem F51c6_i (call : Nat → List EV.Sl → EV.FR) (e : EV.Ev) : (EV.evR G call F51c6).i e = ((EV.evR G call F51c6).f e).bind fun x e1 => EV.R.of (EV.itemsD x.1) e1 := rfl
@[simp] theorem F51c7_b (call : Nat → List EV.Sl → EV.FR) (e : EV.Ev) : (EV.evR G call F51c7).b e = ((EV.evR G call F51c7).f e).bind fun x e1 => .ok (.dat x.1) e1 := rfl
@[simp] theorem F51c7_t (call : Nat → List EV.Sl → EV.FR) (e : EV.Ev) : (EV.evR G call F51c7).t e = ((EV.evR G call F51c7).f e).bind fun x e1 => EV.R.of (EV.truD x.1) e1 := rfl
@[simp] theorem F51c7_i (call : Nat → List EV.Sl → EV.FR) (e : EV.Ev) : (EV.evR G call F51c7).i e = ((EV.evR G call F51c7).f e).bind fun x e1 => EV.R.of (EV.itemsD x.1) e1 := rfl
@[simp] theorem F51c8_b (call : Nat → List EV.Sl → EV.FR) (e : EV.Ev) : (EV.evR G call F51c8).b e = ((EV.evR G call F51c8).f e).bind fun x e1 => .ok (.dat x.1) e1 := rfl
@[simp] theorem F51c8_t (call : Nat → List EV.Sl → EV.FR) (e : EV.Ev) : (EV.evR G call F51c8).t e = ((EV.evR G call F51c8).f e).bind fun x e1 => EV.R.of (EV.truD x.1) e1 := rfl
@[simp] theorem F51c8_i (call : Nat → List EV.Sl → EV.FR) (e : EV.Ev) : (EV.evR G call F51c8).i e = ((EV.evR G call F51c8).f e).bind fun x e1 => EV.R.of (EV.itemsD x.1) e1 := rfl
@[simp] theorem F51c9_b (call : Nat → List EV.Sl → EV.FR) (e : EV.Ev) : (EV.evR G call F51c9).b e = ((EV.evR G call F51c9).f e).bind fun x e1 => .ok (.dat x.1) e1 := rfl
@[simp] theorem F51c9_t (call : Nat → List EV.Sl → EV.FR) (e : EV.Ev) : (EV.evR G call F51c9).t e = ((EV.evR G call F51c9).f e).bind fun x e1 => EV.R.of (EV.truD x.1) e1 := rfl
@[simp] theorem F51c9_i (call : Nat → List EV.Sl → EV.FR) (e : EV.Ev) : (EV.evR G call F51c9).i e = ((EV.evR G call F51c9).f e).bind fun x e1 => EV.R.of (EV.itemsD x.1) e1 := rfl
@[simp] theorem F51c10_b (call : Nat → List EV.Sl → EV.FR) (e : EV.Ev) : (EV.evR G call F51c10).b e = ((EV.evR G call F51c10).f e).bind fun x e1 => .ok (.dat x.1) e1 := rfl
@[simp] theorem F51c10_t (call : Nat → List EV.Sl → EV.FR) (e : EV.Ev) : (EV.evR G call F51c10).t e = ((EV.evR G call F51c10).f e).bind fun x e1 => EV.R.of (EV.truD x.1) e1 := rfl
@[simp] theorem F51c10_i (call : Nat → List EV.Sl → EV.FR) (e : EV.Ev) : (EV.evR G call F51c10).i e = ((EV.evR G call F51c10).f e).bind fun x e1 => EV.R.of (EV.itemsD x.1) e1 := rfl
@[simp] theorem F51c11_b (call : Nat → List EV.Sl → EV.FR) (e : EV.Ev) : (EV.evR G call F51c11).b e = ((EV.evR G call F51c11).f e).bind fun x e1 => .ok (.dat x.1) e1 := rfl
@[simp] theorem F51c11_t (call : Nat → List EV.Sl → EV.FR) (e : EV.Ev) : (EV.evR G call F51c11).t e = ((EV.evR G call F51c11).f e).bind fun x e1 => EV.R.of (EV.truD x.1) e1 := rfl
@[simp] theorem F51c11_i (call : Nat → List EV.Sl → EV.FR) (e : EV.Ev) : (EV.evR G call F51c11).i e = ((EV.evR G call F51c11).f e).bind fun x e1 => EV.R.of (EV.itemsD x.1) e1 := rfl
@[simp] theorem F51c12_b (call : Nat → List EV.Sl → EV.FR) (e : EV.Ev) : (EV.evR G call F51c12).b e = ((EV.evR G call F51c12).f e).bind fun x e1 => .ok (.dat x.1) e1 := rfl
@[simp] theorem F51c12_t (call : Nat → List EV.Sl → EV.FR) (e : EV.Ev) : (EV.evR G call F51c12).t e = ((EV.evR G call F51c12).f e).bind fun x e1 => EV.R.of (EV.truD x.1) e1 := rfl
@[simp] theorem F51c12_i (call : Nat → List EV.Sl → EV.FR) (e : EV.Ev) : (EV.evR G call F51c12).i e = ((EV.evR G call F51c12).f e).bind fun x e1 => EV.R.of (EV.itemsD x.1) e1 := rfl
@[simp] theorem F51c13_b (call : Nat → List EV.Sl → EV.FR) (e : EV.Ev) : (EV.evR G call F51c13).b e = ((EV.evR G call F51c13).f e).bind fun x e1 => .ok (.dat x.1) e1 := rfl
@[simp] theorem F51c13_t (call : Nat → List EV.Sl → EV.FR) (e : EV.Ev) : (EV.evR G call F51c13).t e = ((EV.evR G call F51c13).f e).bind fun x e1 => EV.R.of (EV.truD x.1) e1 := rfl
@[simp] theorem F51c13_i (call : Nat → List EV.Sl → EV.FR) (e : EV.Ev) : (EV.evR G call F51c13).i e = ((EV.evR G call F51c13).f e).bind fun x e1 => EV.R.of (EV.itemsD x.1) e1 := rfl
@[simp] theorem F51c14_b (call : Nat → List EV.Sl → EV.FR) (e : EV.Ev) : (EV.evR G call F51c14).b e = ((EV.evR G call F51c14).f e).bind fun x e1 => .ok (.dat x.1) e1 := rfl
@[simp] theorem F51c14_t (call : Nat → List EV.Sl → EV.FR) (e : EV.Ev) : (EV.evR G call F51c14).t e = ((EV.evR G call F51c14).f e).bind fun x e1 => EV.R.of (EV.truD x.1) e1 := rfl
@[simp] theorem F51c14_i (call : Nat → List EV.Sl → EV.FR) (e : EV.Ev) : (EV.evR G call F51c14).i e = ((EV.evR G call F51c14).f e).bind fun x e1 => EV.R.of (EV.itemsD x.1) e1 := rfl
@[simp] theorem F51c15_b (call : Nat → List EV.Sl → EV.FR) (e : EV.Ev) : (EV.evR G call F51c15).b e = ((EV.evR G call F51c15).f e).bind fun x e1 => .ok (.dat x.1) e1 := rfl
@[simp] theorem F51c15_t (call : Nat → List EV.Sl → EV.FR) (e : EV.Ev) : (EV.evR G call F51c15).t e = ((EV.evR G call F51c15).f e).bind fun x e1 => EV.R.of (EV.truD x.1) e1 := rfl
@[simp] theorem F51c15_i (call : Nat → List EV.Sl → EV.FR) (e : EV.Ev) : (EV.evR G call F51c15).i e = ((EV.evR G call F51c15).f e).bind fun x e1 => EV.R.of (EV.itemsD x.1) e1 := rfl
@[simp] theorem F51c16_b (call : Nat → List EV.Sl → EV.FR) (e : EV.Ev) : (EV.evR G call F51c16).b e = ((EV.evR G call F51c16).f e).bind fun x e1 => .ok (.dat x.1) e1 := rfl
@[simp] theorem F51c16_t (call : Nat → List EV.Sl → EV.FR) (e : EV.Ev) : (EV.evR G call F51c16).t e = ((EV.evR G call F51c16).f e).bind fun x e1 => EV.R.of (EV.truD x.1) e1 := rfl
@[simp] theorem F51c16_i (call : Nat → List EV.Sl → EV.FR) (e : EV.Ev) : (EV.evR G call F51c16).i e = ((EV.evR G call F51c16).f e).bind fun x e1 => EV.R.of (EV.itemsD x.1) e1 := rfl
@[simp] theorem F51c17_b (call : Nat → List EV.Sl → EV.FR) (e : EV.Ev) : (EV.evR G call F51c17).b e = ((EV.evR G call F51c17).f e).bind fun x e1 => .ok (.dat x.1) e1 := rfl
@[simp] theorem F51c17_t (call : Nat → List EV.Sl → EV.FR) (e : EV.Ev) : (EV.evR G call F51c17).t e = ((EV.evR G call F51c17).f e).bind fun x e1 => EV.R.of (EV.truD x.1) e1 := rfl
@[simp] theorem F51c17_i (call : Nat → List EV.Sl → EV.FR) (e : EV.Ev) : (EV.evR G call F51c17).i e = ((EV.evR G call F51c17).f e).bind fun x e1 => EV.R.of (EV.itemsD x.1) e1 := rfl
@[simp] theorem F51c18_b (call : Nat → List EV.Sl → EV.FR) (e : EV.Ev) : (EV.evR G call F51c18).b e = ((EV.evR G call F51c18).f e).bind fun x e1 => .ok (.dat x.1) e1 := rfl
@[simp] theorem F51c18_t (call : Nat → List EV.Sl → EV.FR) (e : EV.Ev) : (EV.evR G call F51c18).t e = ((EV.evR G call F51c18).f e).bind fun x e1 => EV.R.of (EV.truD x.1) e1 := rfl
@[simp] theorem F51c18_i (call : Nat → List EV.Sl → EV.FR) (e : EV.Ev) : (EV.evR G call F51c18).i e = ((EV.evR G call F51c18).f e).bind fun x e1 => EV.R.of (EV.itemsD x.1) e1 := rfl
@[simp] theorem F51c19_b (call : Nat → List EV.Sl → EV.FR) (e : EV.Ev) : (EV.evR G call F51c19).b e = ((EV.evR G call F51c19).f e).bind fun x e1 => .ok (.dat x.1) e1 := rfl
@[simp] theorem F51c19_t (call : Nat → List EV.Sl → EV.FR) (e : EV.Ev) : (EV.evR G call F51c19).t e = ((EV.evR G call F51c19).f e).bind fun x e1 => EV.R.of (EV.truD x.1) e1 := rfl
@[simp] theorem F51c19_i (call : Nat → List EV.Sl → EV.FR) (e : EV.Ev) : (EV.evR G call F51c19).i e = ((EV.evR G call F51c19).f e).bind fun x e1 => EV.R.of (EV.itemsD x.1) e1 := rfl
@[simp] theorem glo0_at : G.glos[0]? = some (PySem.Str.ofString "MOST_VARIABLES", EV.D.int 10) := rfl
end K00
namespace K00
open PySem EV
theorem n0 : G.fns[0]? = some ⟨"is_number", 3, ["value", "low", "high"], [], bIsNum⟩ := rfl
theorem n1 : G.fns[1]? = some ⟨"check_number", 3, ["value", "low", "high"], [], bCheckNum 0 2⟩ := rfl
theorem n3 : G.fns[3]? = some ⟨"is_bits", 2, ["value", "many", "sign"], [], bIsBits⟩ := rfl
theorem n4 : G.fns[4]? = some ⟨"two_to", 1, ["k"], [], bTwoTo⟩ := rfl
theorem n5 : G.fns[5]? = some ⟨"bit", 2, ["p", "k"], [], bBitF⟩ := rfl
theorem n48 : G.fns[48]? = some ⟨"_law_bit", 2, ["p", "k"], [], bBitF⟩ := rfl
theorem n6 : G.fns[6]? = some ⟨"is_function", 1, ["value"], [], bIsFun 0 3 4 0⟩ := rfl
theorem n7 : G.fns[7]? = some ⟨"check_function", 1, ["value"], [], bCheckFun 6 1⟩ := rfl
theorem n15 : G.fns[15]? = some ⟨"function_of", 2, ["n", "values", "one"], [], bOf "one"⟩ := rfl
theorem n47 : G.fns[47]? = some ⟨"_law_made", 2, ["n", "values", "value"], [], bOf "value"⟩ := rfl
theorem n41 : G.fns[41]? = some fMixed := rfl
theorem n42 : G.fns[42]? = some (fNumbers 41) := rfl
theorem n43 : G.fns[43]? = some (fDraw2 41) := rfl
theorem n46 : G.fns[46]? = some ⟨"_law_function", 2, ["draws", "n", "size", "pick", "keep", "small", "ones", "weights", "bound", "p", "k"], [true, false], bLawFun 43⟩ := rfl
theorem num (k a b c : Nat) (h : 1 ≤ k) : (fnEval G k 0 [.sh (nD a), .sh (nD b), .sh (nD c)]).res = .ok (.bl (decide (b ≤ a) && decide (a ≤ c))) false := isnum_nat n0 rfl k a b c h
theorem chk (k a b c : Nat) (h : 2 ≤ k) (h1 : b ≤ a) (h2 : a ≤ c) : (fnEval G k 1 [.sh (nD a), .sh (nD b), .sh (nD c)]).res = .ok .non false := chknum_nat n1 rfl n0 rfl k a b c h h1 h2
theorem two (k n : Nat) (hn : n ≤ 1000000) (h : 1 ≤ k) : (fnEval G k 4 [.sh (nD n)]).res = .ok (nD (2 ^ n)) false := twoto_ok n4 rfl k n hn h
theorem bit (k p j : Nat) (h : 1 ≤ k) : (fnEval G k 5 [.sh (nD p), .sh (nD j)]).res = .ok (nD (p / 2 ^ j % 2)) false := bitf_ok n5 rfl k p j h
theorem lbit (k p j : Nat) (h : 1 ≤ k) : (fnEval G k 48 [.sh (nD p), .sh (nD j)]).res = .ok (nD (p / 2 ^ j % 2)) false := bitf_ok n48 rfl k p j h
theorem chkf (k n : Nat) (b : Nat → Bool) (hn : n ≤ 10) (h : 3 ≤ k) : (fnEval G k 7 [.sh (fD n b)]).res = .ok .non false := chkfun_ok n7 rfl n6 rfl n0 rfl n3 rfl n4 rfl glo0_at k n b hn h
theorem of (k n : Nat) (V : Nat → D) (b : Nat → Bool) (hn : n ≤ 10) (hV : ∀ p, p < 2 ^ n → truD (V p) = some (b p)) (h : 1 ≤ k) : (fnEval G k 15 [.sh (nD n), .sh (.lst ((List.range (2 ^ n)).map V))]).res = .ok (fD n b) false := of_ok n15 rfl k n V b hn hV h
theorem made (k n : Nat) (V : Nat → D) (b : Nat → Bool) (hn : n ≤ 10) (hV : ∀ p, p < 2 ^ n → truD (V p) = some (b p)) (h : 1 ≤ k) : (fnEval G k 47 [.sh (nD n), .sh (.lst ((List.range (2 ^ n)).map V))]).res = .ok (fD n b) false := of_ok n47 rfl k n V b hn hV h
section
variable (k : Nat) {n : Nat} (hn : n ≤ 10) (b c : Nat → Bool)
include hn
theorem f8_ok (h : 4 ≤ k) : (fnEval G k 8 [.sh (fD n b), .sh (fD n c)]).res = .ok .non false := by
  obtain ⟨k, rfl⟩ : ∃ j, k = j + 1 := ⟨k - 1, by omega⟩
  rw [fn_at k [.sh (fD n b), .sh (fD n c)] [.sh (fD n b), .sh (fD n c)] (show G.fns[8]? = some f8 from rfl) rfl rfl]
  have c1 := chkf k n b hn (by omega)
  have c2 := chkf k n c hn (by omega)
  simp [c1, c2, ixF0, exR, evR, lineOk, sizeLine_eq, ofX, ofF, noR, R.out, R.bind, R.of, with1, with2, withs, Bor.res, Bor.frz, ress, frzs, bl2, dat, Sl.get?, Sl.frz, mkSl, Out.res, Res.put, mkArgs, ioAt, doCall, putIos, nd0, nd1, ndl, ndc, nAdd, nSub, nMul, nDiv, nMod, nShl, nShr, nAnd, nXor, nPow, sAdd, lAdd, rAdd, tAdd, lMul, sMul, cEqN, cEqS, cEqB, cNeN, cNeS, cNeB, cLt, cLe, cGt, cGe, cIs, cIsN, isNonN, isNonS, isNonL, isNonR, isNonT, isNonB, isNon0, inS, ninS, tN, tB, tL, tT, tR, t0, bLenL, bLenT, bLenR, bLenS, bIntN, bMin, bMax, bSum, bLstL, bLstT, bTupL, bTupT, ixL, ixT, ixR, ixS, isiN, isiR, flatN, flatR, mutN, mutR, itR, itL, itT, itS, cNilR, cNilN, cNilL, cNilM, meTyJ, inR, ninR, flat0, flatB, flatI, flatS, flatF, flatL, flatT, flatD, mut0, mutB, mutI, mutS, mutF, mutL, mutT, mutD, isi0, isiB, isiI, isiS, isiL, isiT, isiDc, muOk, muTyR, muTyL, muAR, muAL, rMul, setR, bAbs]
theorem f9_ok (p : Nat) (hp : p < 2 ^ n) (h : 3 ≤ k) : (fnEval G k 9 [.sh (fD n b), .sh (nD p)]).res = .ok .non false := by
  obtain ⟨k, rfl⟩ : ∃ j, k = j + 1 := ⟨k - 1, by omega⟩
  rw [fn_at k [.sh (fD n b), .sh (nD p)] [.sh (fD n b), .sh (nD p)] (show G.fns[9]? = some f9 from rfl) rfl rfl]
  have t := two k n (by omega) (by omega)
  have c1 := chk k p 0 (2 ^ n - 1) (by omega) (by omega) (by omega)
  have s := nSub (a := 2 ^ n) (b := 1) (by omega)
  generalize 2 ^ n = w at t c1 s ⊢
  simp [t, c1, s, ixF0, exR, evR, lineOk, sizeLine_eq, ofX, ofF, noR, R.out, R.bind, R.of, with1, with2, withs, Bor.res, Bor.frz, ress, frzs, bl2, dat, Sl.get?, Sl.frz, mkSl, Out.res, Res.put, mkArgs, ioAt, doCall, putIos, nd0, nd1, ndl, ndc, nAdd, nSub, nMul, nDiv, nMod, nShl, nShr, nAnd, nXor, nPow, sAdd, lAdd, rAdd, tAdd, lMul, sMul, cEqN, cEqS, cEqB, cNeN, cNeS, cNeB, cLt, cLe, cGt, cGe, cIs, cIsN, isNonN, isNonS, isNonL, isNonR, isNonT, isNonB, isNon0, inS, ninS, tN, tB, tL, tT, tR, t0, bLenL, bLenT, bLenR, bLenS, bIntN, bMin, bMax, bSum, bLstL, bLstT, bTupL, bTupT, ixL, ixT, ixR, ixS, isiN, isiR, flatN, flatR, mutN, mutR, itR, itL, itT, itS, cNilR, cNilN, cNilL, cNilM, meTyJ, inR, ninR, flat0, flatB, flatI, flatS, flatF, flatL, flatT, flatD, mut0, mutB, mutI, mutS, mutF, mutL, mutT, mutD, isi0, isiB, isiI, isiS, isiL, isiT, isiDc, muOk, muTyR, muTyL, muAR, muAL, rMul, setR, bAbs]
theorem f10_ok (j : Nat) (hj : j < n) (h : 3 ≤ k) : (fnEval G k 10 [.sh (fD n b), .sh (nD j)]).res = .ok .non false := by
  obtain ⟨k, rfl⟩ : ∃ j, k = j + 1 := ⟨k - 1, by omega⟩
  rw [fn_at k [.sh (fD n b), .sh (nD j)] [.sh (fD n b), .sh (nD j)] (show G.fns[10]? = some f10 from rfl) rfl rfl]
  have c1 := chk k j 0 (n - 1) (by omega) (by omega) (by omega)
  have s := nSub (a := n) (b := 1) (by omega)
  simp [c1, s, ixF0, exR, evR, lineOk, sizeLine_eq, ofX, ofF, noR, R.out, R.bind, R.of, with1, with2, withs, Bor.res, Bor.frz, ress, frzs, bl2, dat, Sl.get?, Sl.frz, mkSl, Out.res, Res.put, mkArgs, ioAt, doCall, putIos, nd0, nd1, ndl, ndc, nAdd, nSub, nMul, nDiv, nMod, nShl, nShr, nAnd, nXor, nPow, sAdd, lAdd, rAdd, tAdd, lMul, sMul, cEqN, cEqS, cEqB, cNeN, cNeS, cNeB, cLt, cLe, cGt, cGe, cIs, cIsN, isNonN, isNonS, isNonL, isNonR, isNonT, isNonB, isNon0, inS, ninS, tN, tB, tL, tT, tR, t0, bLenL, bLenT, bLenR, bLenS, bIntN, bMin, bMax, bSum, bLstL, bLstT, bTupL, bTupT, ixL, ixT, ixR, ixS, isiN, isiR, flatN, flatR, mutN, mutR, itR, itL, itT, itS, cNilR, cNilN, cNilL, cNilM, meTyJ, inR, ninR, flat0, flatB, flatI, flatS, flatF, flatL, flatT, flatD, mut0, mutB, mutI, mutS, mutF, mutL, mutT, mutD, isi0, isiB, isiI, isiS, isiL, isiT, isiDc, muOk, muTyR, muTyL, muAR, muAL, rMul, setR, bAbs]
omit hn in
theorem f11_ok (v : Nat) (hv : v ≤ 1) (h : 3 ≤ k) : (fnEval G k 11 [.sh (nD v)]).res = .ok .non false := by
  obtain ⟨k, rfl⟩ : ∃ j, k = j + 1 := ⟨k - 1, by omega⟩
  rw [fn_at k [.sh (nD v)] [.sh (nD v)] (show G.fns[11]? = some f11 from rfl) rfl rfl]
  have c1 := chk k v 0 1 (by omega) (by omega) (by omega)
  simp [c1, exR, evR, lineOk, sizeLine_eq, ofX, ofF, noR, R.out, R.bind, R.of, with1, with2, withs, Bor.res, Bor.frz, ress, frzs, bl2, dat, Sl.get?, Sl.frz, mkSl, Out.res, Res.put, mkArgs, ioAt, doCall, putIos, nd0, nd1, ndl, ndc, nAdd, nSub, nMul, nDiv, nMod, nShl, nShr, nAnd, nXor, nPow, sAdd, lAdd, rAdd, tAdd, lMul, sMul, cEqN, cEqS, cEqB, cNeN, cNeS, cNeB, cLt, cLe, cGt, cGe, cIs, cIsN, isNonN, isNonS, isNonL, isNonR, isNonT, isNonB, isNon0, inS, ninS, tN, tB, tL, tT, tR, t0, bLenL, bLenT, bLenR, bLenS, bIntN, bMin, bMax, bSum, bLstL, bLstT, bTupL, bTupT, ixL, ixT, ixR, ixS, isiN, isiR, flatN, flatR, mutN, mutR, itR, itL, itT, itS, cNilR, cNilN, cNilL, cNilM, meTyJ, inR, ninR, flat0, flatB, flatI, flatS, flatF, flatL, flatT, flatD, mut0, mutB, mutI, mutS, mutF, mutL, mutT, mutD, isi0, isiB, isiI, isiS, isiL, isiT, isiDc, muOk, muTyR, muTyL, muAR, muAL, rMul, setR, bAbs]
/-- range(len(f[1])) -/
theorem rngF (call : Nat → List Sl → FR) (e : Ev) (he : e.getD 0 .no = .sh (fD n b)) : (evR G call (.rng1 (.bi .len (.cons (.ix (.var 0) (.lit (.int 1))) .nil)))).i e = .ok ((List.range (2 ^ n)).map nD) e := by
  have p2 := p2le hn
  have hv : (evR G call (.var 0)).b e = .ok (.dat (fD n b)) e := by
    show (match e.getD 0 .no with
      | .no => R.st
      | .sh d => R.ok (Bor.dat d) e
      | .ow _ => R.ok (Bor.slot 0) e) = _
    rw [he]
  have hx : (evR G call (.ix (.var 0) (.lit (.int 1)))).b e = .ok (.dat (.str (tx n b))) e := by
    show (with2 (evR G call (.var 0)) (evR G call (.lit (.int 1))) e (fun d d' e2 => dat (ixD d d') e2)).bind _ = _
    unfold with2
    rw [hv]
    rfl
  refine rng1_i (fr := false) (bi_f (cons_bs hx nil_bs) rfl (lenTx b hn)) (by omega)
theorem str_int (x : Bool) : biD .intF [.str [ch x]] = some (nD (if x = true then 1 else 0), false) := by
  cases x
  · show (PySem.intText? ⟨#[48]⟩).map (fun n => (D.int n, false)) = _
    rw [show PySem.intText? ⟨#[48]⟩ = some 0 by decide +kernel]
    rfl
  · show (PySem.intText? ⟨#[49]⟩).map (fun n => (D.int n, false)) = _
    rw [show PySem.intText? ⟨#[49]⟩ = some 1 by decide +kernel]
    rfl
theorem f12_ok (p : Nat) (hp : p < 2 ^ n) (h : 4 ≤ k) : (fnEval G k 12 [.sh (fD n b), .sh (nD p)]).res = .ok (nD (if b p = true then 1 else 0)) false := by
  obtain ⟨k, rfl⟩ : ∃ j, k = j + 1 := ⟨k - 1, by omega⟩
  rw [fn_at k [.sh (fD n b), .sh (nD p)] [.sh (fD n b), .sh (nD p)] (show G.fns[12]? = some f12 from rfl) rfl rfl]
  have c1 := chkf k n b hn (by omega)
  have c2 := f9_ok k hn b p hp (by omega)
  have i := ixTx b hn hp
  have si := str_int hn (b p)
  simp [c1, c2, i, si, ixF0, ixF1, exR, evR, lineOk, sizeLine_eq, ofX, ofF, noR, R.out, R.bind, R.of, with1, with2, withs, Bor.res, Bor.frz, ress, frzs, bl2, dat, Sl.get?, Sl.frz, mkSl, Out.res, Res.put, mkArgs, ioAt, doCall, putIos, nd0, nd1, ndl, ndc, nAdd, nSub, nMul, nDiv, nMod, nShl, nShr, nAnd, nXor, nPow, sAdd, lAdd, rAdd, tAdd, lMul, sMul, cEqN, cEqS, cEqB, cNeN, cNeS, cNeB, cLt, cLe, cGt, cGe, cIs, cIsN, isNonN, isNonS, isNonL, isNonR, isNonT, isNonB, isNon0, inS, ninS, tN, tB, tL, tT, tR, t0, bLenL, bLenT, bLenR, bLenS, bIntN, bMin, bMax, bSum, bLstL, bLstT, bTupL, bTupT, ixL, ixT, ixR, ixS, isiN, isiR, flatN, flatR, mutN, mutR, itR, itL, itT, itS, cNilR, cNilN, cNilL, cNilM, meTyJ, inR, ninR, flat0, flatB, flatI, flatS, flatF, flatL, flatT, flatD, mut0, mutB, mutI, mutS, mutF, mutL, mutT, mutD, isi0, isiB, isiI, isiS, isiL, isiT, isiDc, muOk, muTyR, muTyL, muAR, muAL, rMul, setR, bAbs]
theorem f13_ok (h : 1 ≤ k) : (fnEval G k 13 [.sh (fD n b)]).res = .ok (rowsD ((List.range (2 ^ n)).filter b)) true := by
  obtain ⟨k, rfl⟩ : ∃ j, k = j + 1 := ⟨k - 1, by omega⟩
  rw [fn_at k [.sh (fD n b)] [.sh (fD n b), .no] (show G.fns[13]? = some f13 from rfl) rfl rfl]
  have p2 := p2le hn
  have c : (evR G (fnEval G k) F13c0).f [.sh (fD n b), .no] = .ok (rowsD ((List.range (2 ^ n)).filter b), true) [.sh (fD n b), .no] := by
    refine comp_det (List.range (2 ^ n)) nD b nD (rngF hn b _ _ rfl) (by simp; omega) (fun p hp => ?_) (fun _ _ _ => ⟨false, rfl⟩)
    have i := ixTx b hn (by simpa using hp)
    simp [i, exR, evR, lineOk, sizeLine_eq, ofX, ofF, noR, R.out, R.bind, R.of, with1, with2, withs, Bor.res, Bor.frz, ress, frzs, bl2, dat, Sl.get?, Sl.frz, mkSl, Out.res, Res.put, mkArgs, ioAt, doCall, putIos, nd0, nd1, ndl, ndc, nAdd, nSub, nMul, nDiv, nMod, nShl, nShr, nAnd, nXor, nPow, sAdd, lAdd, rAdd, tAdd, lMul, sMul, cEqN, cEqS, cEqB, cNeN, cNeS, cNeB, cLt, cLe, cGt, cGe, cIs, cIsN, isNonN, isNonS, isNonL, isNonR, isNonT, isNonB, isNon0, inS, ninS, tN, tB, tL, tT, tR, t0, bLenL, bLenT, bLenR, bLenS, bIntN, bMin, bMax, bSum, bLstL, bLstT, bTupL, bTupT, ixL, ixT, ixR, ixS, isiN, isiR, flatN, flatR, mutN, mutR, itR, itL, itT, itS, cNilR, cNilN, cNilL, cNilM, meTyJ, inR, ninR, flat0, flatB, flatI, flatS, flatF, flatL, flatT, flatD, mut0, mutB, mutI, mutS, mutF, mutL, mutT, mutD, isi0, isiB, isiI, isiS, isiL, isiT, isiDc, muOk, muTyR, muTyL, muAR, muAL, rMul, setR, bAbs, ixF0, ixF1, flatFn, mutFn, lenF, isiF, dch1, dch0, dchc]
  refine go_ret (Is _) (by intro i h; cases h) c ?_
  rfl
theorem f14_ok (h : 4 ≤ k) : (fnEval G k 14 [.sh (fD n b)]).res = .ok (rowsD ((List.range (2 ^ n)).filter b)) true := by
  obtain ⟨k, rfl⟩ : ∃ j, k = j + 1 := ⟨k - 1, by omega⟩
  rw [fn_at k [.sh (fD n b)] [.sh (fD n b)] (show G.fns[14]? = some f14 from rfl) rfl rfl]
  have c1 := chkf k n b hn (by omega)
  have c2 := f13_ok k hn b (by omega)
  simp [c1, c2, exR, evR, lineOk, sizeLine_eq, ofX, ofF, noR, R.out, R.bind, R.of, with1, with2, withs, Bor.res, Bor.frz, ress, frzs, bl2, dat, Sl.get?, Sl.frz, mkSl, Out.res, Res.put, mkArgs, ioAt, doCall, putIos, nd0, nd1, ndl, ndc, nAdd, nSub, nMul, nDiv, nMod, nShl, nShr, nAnd, nXor, nPow, sAdd, lAdd, rAdd, tAdd, lMul, sMul, cEqN, cEqS, cEqB, cNeN, cNeS, cNeB, cLt, cLe, cGt, cGe, cIs, cIsN, isNonN, isNonS, isNonL, isNonR, isNonT, isNonB, isNon0, inS, ninS, tN, tB, tL, tT, tR, t0, bLenL, bLenT, bLenR, bLenS, bIntN, bMin, bMax, bSum, bLstL, bLstT, bTupL, bTupT, ixL, ixT, ixR, ixS, isiN, isiR, flatN, flatR, mutN, mutR, itR, itL, itT, itS, cNilR, cNilN, cNilL, cNilM, meTyJ, inR, ninR, flat0, flatB, flatI, flatS, flatF, flatL, flatT, flatD, mut0, mutB, mutI, mutS, mutF, mutL, mutT, mutD, isi0, isiB, isiI, isiS, isiL, isiT, isiDc, muOk, muTyR, muTyL, muAR, muAL, rMul, setR, bAbs]
theorem tx_items : (tx n b).map (fun c => D.str [c]) = (List.range (2 ^ n)).map fun p => D.str [ch (b p)] := by
  unfold tx
  rw [List.map_map]
  rfl
theorem f19_ok (h : 2 ≤ k) : (fnEval G k 19 [.sh (fD n b)]).res = .ok (fD n fun p => !b p) false := by
  obtain ⟨k, rfl⟩ : ∃ j, k = j + 1 := ⟨k - 1, by omega⟩
  rw [fn_at k [.sh (fD n b)] [.sh (fD n b), .no] (show G.fns[19]? = some f19 from rfl) rfl rfl]
  have p2 := p2le hn
  have c : (evR G (fnEval G k) F19c0).f [.sh (fD n b), .no] = .ok (.lst ((List.range (2 ^ n)).map fun p => .bl (!b p)), true) [.sh (fD n b), .no] := by
    refine comp_all (List.range (2 ^ n)) (fun p => .str [ch (b p)]) (fun p => .bl (!b p)) ?_ (by simp; omega) (fun p hp => ⟨false, ?_⟩)
    · rw [← tx_items hn]
      simp [ixF1, exR, evR, lineOk, sizeLine_eq, ofX, ofF, noR, R.out, R.bind, R.of, with1, with2, withs, Bor.res, Bor.frz, ress, frzs, bl2, dat, Sl.get?, Sl.frz, mkSl, Out.res, Res.put, mkArgs, ioAt, doCall, putIos, nd0, nd1, ndl, ndc, nAdd, nSub, nMul, nDiv, nMod, nShl, nShr, nAnd, nXor, nPow, sAdd, lAdd, rAdd, tAdd, lMul, sMul, cEqN, cEqS, cEqB, cNeN, cNeS, cNeB, cLt, cLe, cGt, cGe, cIs, cIsN, isNonN, isNonS, isNonL, isNonR, isNonT, isNonB, isNon0, inS, ninS, tN, tB, tL, tT, tR, t0, bLenL, bLenT, bLenR, bLenS, bIntN, bMin, bMax, bSum, bLstL, bLstT, bTupL, bTupT, ixL, ixT, ixR, ixS, isiN, isiR, flatN, flatR, mutN, mutR, itR, itL, itT, itS, cNilR, cNilN, cNilL, cNilM, meTyJ, inR, ninR, flat0, flatB, flatI, flatS, flatF, flatL, flatT, flatD, mut0, mutB, mutI, mutS, mutF, mutL, mutT, mutD, isi0, isiB, isiI, isiS, isiL, isiT, isiDc, muOk, muTyR, muTyL, muAR, muAL, rMul, setR, bAbs]
    · simp [exR, evR, lineOk, sizeLine_eq, ofX, ofF, noR, R.out, R.bind, R.of, with1, with2, withs, Bor.res, Bor.frz, ress, frzs, bl2, dat, Sl.get?, Sl.frz, mkSl, Out.res, Res.put, mkArgs, ioAt, doCall, putIos, nd0, nd1, ndl, ndc, nAdd, nSub, nMul, nDiv, nMod, nShl, nShr, nAnd, nXor, nPow, sAdd, lAdd, rAdd, tAdd, lMul, sMul, cEqN, cEqS, cEqB, cNeN, cNeS, cNeB, cLt, cLe, cGt, cGe, cIs, cIsN, isNonN, isNonS, isNonL, isNonR, isNonT, isNonB, isNon0, inS, ninS, tN, tB, tL, tT, tR, t0, bLenL, bLenT, bLenR, bLenS, bIntN, bMin, bMax, bSum, bLstL, bLstT, bTupL, bTupT, ixL, ixT, ixR, ixS, isiN, isiR, flatN, flatR, mutN, mutR, itR, itL, itT, itS, cNilR, cNilN, cNilL, cNilM, meTyJ, inR, ninR, flat0, flatB, flatI, flatS, flatF, flatL, flatT, flatD, mut0, mutB, mutI, mutS, mutF, mutL, mutT, mutD, isi0, isiB, isiI, isiS, isiL, isiT, isiDc, muOk, muTyR, muTyL, muAR, muAL, rMul, setR, bAbs, ixF0, ixF1, flatFn, mutFn, lenF, isiF, dch1, dch0, dchc]
  have o := of k n (fun p => .bl (!b p)) (fun p => !b p) hn (fun p _ => rfl) (by omega)
  simp [c, o, ixF0, flatFn, exR, evR, lineOk, sizeLine_eq, ofX, ofF, noR, R.out, R.bind, R.of, with1, with2, withs, Bor.res, Bor.frz, ress, frzs, bl2, dat, Sl.get?, Sl.frz, mkSl, Out.res, Res.put, mkArgs, ioAt, doCall, putIos, nd0, nd1, ndl, ndc, nAdd, nSub, nMul, nDiv, nMod, nShl, nShr, nAnd, nXor, nPow, sAdd, lAdd, rAdd, tAdd, lMul, sMul, cEqN, cEqS, cEqB, cNeN, cNeS, cNeB, cLt, cLe, cGt, cGe, cIs, cIsN, isNonN, isNonS, isNonL, isNonR, isNonT, isNonB, isNon0, inS, ninS, tN, tB, tL, tT, tR, t0, bLenL, bLenT, bLenR, bLenS, bIntN, bMin, bMax, bSum, bLstL, bLstT, bTupL, bTupT, ixL, ixT, ixR, ixS, isiN, isiR, flatN, flatR, mutN, mutR, itR, itL, itT, itS, cNilR, cNilN, cNilL, cNilM, meTyJ, inR, ninR, flat0, flatB, flatI, flatS, flatF, flatL, flatT, flatD, mut0, mutB, mutI, mutS, mutF, mutL, mutT, mutD, isi0, isiB, isiI, isiS, isiL, isiT, isiDc, muOk, muTyR, muTyL, muAR, muAL, rMul, setR, bAbs]
theorem f20_ok (h : 4 ≤ k) : (fnEval G k 20 [.sh (fD n b)]).res = .ok (fD n fun p => !b p) false := by
  obtain ⟨k, rfl⟩ : ∃ j, k = j + 1 := ⟨k - 1, by omega⟩
  rw [fn_at k [.sh (fD n b)] [.sh (fD n b)] (show G.fns[20]? = some f20 from rfl) rfl rfl]
  have c1 := chkf k n b hn (by omega)
  have c2 := f19_ok k hn b (by omega)
  simp [c1, c2, flatFn, exR, evR, lineOk, sizeLine_eq, ofX, ofF, noR, R.out, R.bind, R.of, with1, with2, withs, Bor.res, Bor.frz, ress, frzs, bl2, dat, Sl.get?, Sl.frz, mkSl, Out.res, Res.put, mkArgs, ioAt, doCall, putIos, nd0, nd1, ndl, ndc, nAdd, nSub, nMul, nDiv, nMod, nShl, nShr, nAnd, nXor, nPow, sAdd, lAdd, rAdd, tAdd, lMul, sMul, cEqN, cEqS, cEqB, cNeN, cNeS, cNeB, cLt, cLe, cGt, cGe, cIs, cIsN, isNonN, isNonS, isNonL, isNonR, isNonT, isNonB, isNon0, inS, ninS, tN, tB, tL, tT, tR, t0, bLenL, bLenT, bLenR, bLenS, bIntN, bMin, bMax, bSum, bLstL, bLstT, bTupL, bTupT, ixL, ixT, ixR, ixS, isiN, isiR, flatN, flatR, mutN, mutR, itR, itL, itT, itS, cNilR, cNilN, cNilL, cNilM, meTyJ, inR, ninR, flat0, flatB, flatI, flatS, flatF, flatL, flatT, flatD, mut0, mutB, mutI, mutS, mutF, mutL, mutT, mutD, isi0, isiB, isiI, isiS, isiL, isiT, isiDc, muOk, muTyR, muTyL, muAR, muAL, rMul, setR, bAbs]
theorem f21_ok (h : 2 ≤ k) : (fnEval G k 21 [.sh (fD n b), .sh (fD n c)]).res = .ok (fD n fun p => b p && c p) false := by
  obtain ⟨k, rfl⟩ : ∃ j, k = j + 1 := ⟨k - 1, by omega⟩
  rw [fn_at k [.sh (fD n b), .sh (fD n c)] [.sh (fD n b), .sh (fD n c), .no] (show G.fns[21]? = some f21 from rfl) rfl rfl]
  have p2 := p2le hn
  have cc : (evR G (fnEval G k) F21c0).f [.sh (fD n b), .sh (fD n c), .no] = .ok (.lst ((List.range (2 ^ n)).map fun p => .bl (b p && c p)), true) [.sh (fD n b), .sh (fD n c), .no] := by
    refine comp_all (List.range (2 ^ n)) nD (fun p => .bl (b p && c p)) (rngF hn b _ _ rfl) (by simp; omega) (fun p hp => ⟨false, ?_⟩)
    have i := ixTx b hn (show p < 2 ^ n by simpa using hp)
    have i2 := ixTx c hn (show p < 2 ^ n by simpa using hp)
    generalize b p = x at i ⊢
    generalize c p = y at i2 ⊢
    have e1 := cEq1 x
    have e2 := cEq1 y
    cases x <;> simp [i, i2, e1, e2, ixF1, exR, evR, lineOk, sizeLine_eq, ofX, ofF, noR, R.out, R.bind, R.of, with1, with2, withs, Bor.res, Bor.frz, ress, frzs, bl2, dat, Sl.get?, Sl.frz, mkSl, Out.res, Res.put, mkArgs, ioAt, doCall, putIos, nd0, nd1, ndl, ndc, nAdd, nSub, nMul, nDiv, nMod, nShl, nShr, nAnd, nXor, nPow, sAdd, lAdd, rAdd, tAdd, lMul, sMul, cEqN, cEqS, cEqB, cNeN, cNeS, cNeB, cLt, cLe, cGt, cGe, cIs, cIsN, isNonN, isNonS, isNonL, isNonR, isNonT, isNonB, isNon0, inS, ninS, tN, tB, tL, tT, tR, t0, bLenL, bLenT, bLenR, bLenS, bIntN, bMin, bMax, bSum, bLstL, bLstT, bTupL, bTupT, ixL, ixT, ixR, ixS, isiN, isiR, flatN, flatR, mutN, mutR, itR, itL, itT, itS, cNilR, cNilN, cNilL, cNilM, meTyJ, inR, ninR, flat0, flatB, flatI, flatS, flatF, flatL, flatT, flatD, mut0, mutB, mutI, mutS, mutF, mutL, mutT, mutD, isi0, isiB, isiI, isiS, isiL, isiT, isiDc, muOk, muTyR, muTyL, muAR, muAL, rMul, setR, bAbs]
  have o := of k n (fun p => .bl (b p && c p)) (fun p => b p && c p) hn (fun p _ => rfl) (by omega)
  simp [cc, o, ixF0, flatFn, exR, evR, lineOk, sizeLine_eq, ofX, ofF, noR, R.out, R.bind, R.of, with1, with2, withs, Bor.res, Bor.frz, ress, frzs, bl2, dat, Sl.get?, Sl.frz, mkSl, Out.res, Res.put, mkArgs, ioAt, doCall, putIos, nd0, nd1, ndl, ndc, nAdd, nSub, nMul, nDiv, nMod, nShl, nShr, nAnd, nXor, nPow, sAdd, lAdd, rAdd, tAdd, lMul, sMul, cEqN, cEqS, cEqB, cNeN, cNeS, cNeB, cLt, cLe, cGt, cGe, cIs, cIsN, isNonN, isNonS, isNonL, isNonR, isNonT, isNonB, isNon0, inS, ninS, tN, tB, tL, tT, tR, t0, bLenL, bLenT, bLenR, bLenS, bIntN, bMin, bMax, bSum, bLstL, bLstT, bTupL, bTupT, ixL, ixT, ixR, ixS, isiN, isiR, flatN, flatR, mutN, mutR, itR, itL, itT, itS, cNilR, cNilN, cNilL, cNilM, meTyJ, inR, ninR, flat0, flatB, flatI, flatS, flatF, flatL, flatT, flatD, mut0, mutB, mutI, mutS, mutF, mutL, mutT, mutD, isi0, isiB, isiI, isiS, isiL, isiT, isiDc, muOk, muTyR, muTyL, muAR, muAL, rMul, setR, bAbs]
theorem f23_ok (h : 2 ≤ k) : (fnEval G k 23 [.sh (fD n b), .sh (fD n c)]).res = .ok (fD n fun p => b p || c p) false := by
  obtain ⟨k, rfl⟩ : ∃ j, k = j + 1 := ⟨k - 1, by omega⟩
  rw [fn_at k [.sh (fD n b), .sh (fD n c)] [.sh (fD n b), .sh (fD n c), .no] (show G.fns[23]? = some f23 from rfl) rfl rfl]
  have p2 := p2le hn
  have cc : (evR G (fnEval G k) F23c0).f [.sh (fD n b), .sh (fD n c), .no] = .ok (.lst ((List.range (2 ^ n)).map fun p => .bl (b p || c p)), true) [.sh (fD n b), .sh (fD n c), .no] := by
    refine comp_all (List.range (2 ^ n)) nD (fun p => .bl (b p || c p)) (rngF hn b _ _ rfl) (by simp; omega) (fun p hp => ⟨false, ?_⟩)
    have i := ixTx b hn (show p < 2 ^ n by simpa using hp)
    have i2 := ixTx c hn (show p < 2 ^ n by simpa using hp)
    generalize b p = x at i ⊢
    generalize c p = y at i2 ⊢
    have e1 := cEq1 x
    have e2 := cEq1 y
    cases x <;> simp [i, i2, e1, e2, ixF1, exR, evR, lineOk, sizeLine_eq, ofX, ofF, noR, R.out, R.bind, R.of, with1, with2, withs, Bor.res, Bor.frz, ress, frzs, bl2, dat, Sl.get?, Sl.frz, mkSl, Out.res, Res.put, mkArgs, ioAt, doCall, putIos, nd0, nd1, ndl, ndc, nAdd, nSub, nMul, nDiv, nMod, nShl, nShr, nAnd, nXor, nPow, sAdd, lAdd, rAdd, tAdd, lMul, sMul, cEqN, cEqS, cEqB, cNeN, cNeS, cNeB, cLt, cLe, cGt, cGe, cIs, cIsN, isNonN, isNonS, isNonL, isNonR, isNonT, isNonB, isNon0, inS, ninS, tN, tB, tL, tT, tR, t0, bLenL, bLenT, bLenR, bLenS, bIntN, bMin, bMax, bSum, bLstL, bLstT, bTupL, bTupT, ixL, ixT, ixR, ixS, isiN, isiR, flatN, flatR, mutN, mutR, itR, itL, itT, itS, cNilR, cNilN, cNilL, cNilM, meTyJ, inR, ninR, flat0, flatB, flatI, flatS, flatF, flatL, flatT, flatD, mut0, mutB, mutI, mutS, mutF, mutL, mutT, mutD, isi0, isiB, isiI, isiS, isiL, isiT, isiDc, muOk, muTyR, muTyL, muAR, muAL, rMul, setR, bAbs]
  have o := of k n (fun p => .bl (b p || c p)) (fun p => b p || c p) hn (fun p _ => rfl) (by omega)
  simp [cc, o, ixF0, flatFn, exR, evR, lineOk, sizeLine_eq, ofX, ofF, noR, R.out, R.bind, R.of, with1, with2, withs, Bor.res, Bor.frz, ress, frzs, bl2, dat, Sl.get?, Sl.frz, mkSl, Out.res, Res.put, mkArgs, ioAt, doCall, putIos, nd0, nd1, ndl, ndc, nAdd, nSub, nMul, nDiv, nMod, nShl, nShr, nAnd, nXor, nPow, sAdd, lAdd, rAdd, tAdd, lMul, sMul, cEqN, cEqS, cEqB, cNeN, cNeS, cNeB, cLt, cLe, cGt, cGe, cIs, cIsN, isNonN, isNonS, isNonL, isNonR, isNonT, isNonB, isNon0, inS, ninS, tN, tB, tL, tT, tR, t0, bLenL, bLenT, bLenR, bLenS, bIntN, bMin, bMax, bSum, bLstL, bLstT, bTupL, bTupT, ixL, ixT, ixR, ixS, isiN, isiR, flatN, flatR, mutN, mutR, itR, itL, itT, itS, cNilR, cNilN, cNilL, cNilM, meTyJ, inR, ninR, flat0, flatB, flatI, flatS, flatF, flatL, flatT, flatD, mut0, mutB, mutI, mutS, mutF, mutL, mutT, mutD, isi0, isiB, isiI, isiS, isiL, isiT, isiDc, muOk, muTyR, muTyL, muAR, muAL, rMul, setR, bAbs]
theorem f25_ok (h : 2 ≤ k) : (fnEval G k 25 [.sh (fD n b), .sh (fD n c)]).res = .ok (fD n fun p => b p != c p) false := by
  obtain ⟨k, rfl⟩ : ∃ j, k = j + 1 := ⟨k - 1, by omega⟩
  rw [fn_at k [.sh (fD n b), .sh (fD n c)] [.sh (fD n b), .sh (fD n c), .no] (show G.fns[25]? = some f25 from rfl) rfl rfl]
  have p2 := p2le hn
  have cc : (evR G (fnEval G k) F25c0).f [.sh (fD n b), .sh (fD n c), .no] = .ok (.lst ((List.range (2 ^ n)).map fun p => .bl (b p != c p)), true) [.sh (fD n b), .sh (fD n c), .no] := by
    refine comp_all (List.range (2 ^ n)) nD (fun p => .bl (b p != c p)) (rngF hn b _ _ rfl) (by simp; omega) (fun p hp => ⟨false, ?_⟩)
    have i := ixTx b hn (show p < 2 ^ n by simpa using hp)
    have i2 := ixTx c hn (show p < 2 ^ n by simpa using hp)
    generalize b p = x at i ⊢
    generalize c p = y at i2 ⊢
    have e1 := cNeC x y
    generalize ch x = u at i e1 ⊢
    generalize ch y = w at i2 e1 ⊢
    generalize (x != y) = z at e1 ⊢
    simp [i, i2, e1, ixF1, exR, evR, lineOk, sizeLine_eq, ofX, ofF, noR, R.out, R.bind, R.of, with1, with2, withs, Bor.res, Bor.frz, ress, frzs, bl2, dat, Sl.get?, Sl.frz, mkSl, Out.res, Res.put, mkArgs, ioAt, doCall, putIos, nd0, nd1, ndl, ndc, nAdd, nSub, nMul, nDiv, nMod, nShl, nShr, nAnd, nXor, nPow, sAdd, lAdd, rAdd, tAdd, lMul, sMul, cEqN, cEqB, cNeN, cNeB, cLt, cLe, cGt, cGe, cIs, cIsN, isNonN, isNonS, isNonL, isNonR, isNonT, isNonB, isNon0, inS, ninS, tN, tB, tL, tT, tR, t0, bLenL, bLenT, bLenR, bLenS, bIntN, bMin, bMax, bSum, bLstL, bLstT, bTupL, bTupT, ixL, ixT, ixR, ixS, isiN, isiR, flatN, flatR, mutN, mutR, itR, itL, itT, itS, cNilR, cNilN, cNilL, cNilM, meTyJ, inR, ninR, flat0, flatB, flatI, flatS, flatF, flatL, flatT, flatD, mut0, mutB, mutI, mutS, mutF, mutL, mutT, mutD, isi0, isiB, isiI, isiS, isiL, isiT, isiDc, muOk, muTyR, muTyL, muAR, muAL, rMul, setR, bAbs]
  have o := of k n (fun p => .bl (b p != c p)) (fun p => b p != c p) hn (fun p _ => rfl) (by omega)
  simp [cc, o, ixF0, flatFn, exR, evR, lineOk, sizeLine_eq, ofX, ofF, noR, R.out, R.bind, R.of, with1, with2, withs, Bor.res, Bor.frz, ress, frzs, bl2, dat, Sl.get?, Sl.frz, mkSl, Out.res, Res.put, mkArgs, ioAt, doCall, putIos, nd0, nd1, ndl, ndc, nAdd, nSub, nMul, nDiv, nMod, nShl, nShr, nAnd, nXor, nPow, sAdd, lAdd, rAdd, tAdd, lMul, sMul, cEqN, cEqS, cEqB, cNeN, cNeS, cNeB, cLt, cLe, cGt, cGe, cIs, cIsN, isNonN, isNonS, isNonL, isNonR, isNonT, isNonB, isNon0, inS, ninS, tN, tB, tL, tT, tR, t0, bLenL, bLenT, bLenR, bLenS, bIntN, bMin, bMax, bSum, bLstL, bLstT, bTupL, bTupT, ixL, ixT, ixR, ixS, isiN, isiR, flatN, flatR, mutN, mutR, itR, itL, itT, itS, cNilR, cNilN, cNilL, cNilM, meTyJ, inR, ninR, flat0, flatB, flatI, flatS, flatF, flatL, flatT, flatD, mut0, mutB, mutI, mutS, mutF, mutL, mutT, mutD, isi0, isiB, isiI, isiS, isiL, isiT, isiDc, muOk, muTyR, muTyL, muAR, muAL, rMul, setR, bAbs]
end
end K00
namespace K00
open PySem EV
/-! p with the bit k made v -/
def setb (p k v : Nat) : Nat := (p / 2 ^ k / 2 * 2 + v) * 2 ^ k + p % 2 ^ k
theorem setb_sub (p k : Nat) : p / 2 ^ k % 2 * 2 ^ k ≤ p := by
  have h1 := Nat.div_add_mod p (2 ^ k)
  have h2 := Nat.mod_le (p / 2 ^ k) 2
  have h3 : 2 ^ k * (p / 2 ^ k % 2) ≤ 2 ^ k * (p / 2 ^ k) := Nat.mul_le_mul_left _ h2
  rw [Nat.mul_comm]
  omega
theorem setb_eq (p k v : Nat) : p - p / 2 ^ k % 2 * 2 ^ k + v * 2 ^ k = setb p k v := by
  unfold setb
  have h1 := Nat.div_add_mod p (2 ^ k)
  have h2 := Nat.div_add_mod (p / 2 ^ k) 2
  have h3 := setb_sub p k
  generalize 2 ^ k = A at *
  generalize p % A = r at *
  generalize ha : p / A = a at *
  generalize a / 2 = q at *
  generalize a % 2 = t at *
  subst h2
  rw [Nat.mul_add] at h1
  rw [Nat.add_mul]
  have e1 : A * (2 * q) = q * 2 * A := by rw [Nat.mul_comm 2 q, Nat.mul_comm]
  have e2 : A * t = t * A := Nat.mul_comm _ _
  omega
theorem setb_div (p k v : Nat) : setb p k v / 2 ^ k = p / 2 ^ k / 2 * 2 + v := by
  unfold setb
  have hp : 0 < 2 ^ k := Nat.pow_pos (by decide)
  rw [Nat.mul_comm, Nat.mul_add_div hp, Nat.div_eq_of_lt (Nat.mod_lt _ hp), Nat.add_zero]
theorem setb_lt {p k v n : Nat} (hp : p < 2 ^ n) (hk : k < n) (hv : v ≤ 1) : setb p k v < 2 ^ n := by
  obtain ⟨d, rfl⟩ : ∃ d, n = k + 1 + d := ⟨n - (k + 1), by omega⟩
  have e : 2 ^ (k + 1 + d) = 2 ^ k * (2 * 2 ^ d) := by rw [Nat.pow_add, Nat.pow_succ, Nat.mul_assoc]
  have hA : 0 < 2 ^ k := Nat.pow_pos (by decide)
  rw [e] at hp ⊢
  have h1 : p / 2 ^ k < 2 * 2 ^ d := Nat.div_lt_of_lt_mul hp
  have h2 : setb p k v / 2 ^ k < 2 * 2 ^ d := by
    rw [setb_div]
    omega
  rw [Nat.mul_comm]
  exact (Nat.div_lt_iff_lt_mul hA).mp h2
theorem setb_bit (p k v j : Nat) (hv : v ≤ 1) : setb p k v / 2 ^ j % 2 = if j = k then v else p / 2 ^ j % 2 := by
  rcases Nat.lt_trichotomy j k with h | h | h
  · rw [if_neg (by omega)]
    obtain ⟨d, rfl⟩ : ∃ d, k = j + 1 + d := ⟨k - (j + 1), by omega⟩
    have e : 2 ^ (j + 1 + d) = 2 ^ j * (2 * 2 ^ d) := by rw [Nat.pow_add, Nat.pow_succ, Nat.mul_assoc]
    have low : ∀ X r : Nat, (X * 2 ^ (j + 1 + d) + r) / 2 ^ j % 2 = r / 2 ^ j % 2 := fun X r => by
      rw [e, Nat.add_comm, Nat.mul_comm X, Nat.mul_assoc, Nat.add_mul_div_left _ _ (Nat.pow_pos (by decide)), Nat.mul_assoc, Nat.add_mul_mod_self_left]
    unfold setb
    rw [low]
    have h1 := Nat.div_add_mod p (2 ^ (j + 1 + d))
    conv => rhs; rw [← h1, Nat.mul_comm (2 ^ (j + 1 + d)), low]
  · subst h
    rw [if_pos rfl, setb_div]
    omega
  · rw [if_neg (by omega)]
    obtain ⟨d, rfl⟩ : ∃ d, j = k + 1 + d := ⟨j - (k + 1), by omega⟩
    have e : ∀ x : Nat, x / 2 ^ (k + 1 + d) = x / 2 ^ k / 2 / 2 ^ d := fun x => by
      rw [Nat.pow_add, Nat.pow_succ, ← Nat.div_div_eq_div_mul, ← Nat.div_div_eq_div_mul]
    rw [e, e, setb_div, show (p / 2 ^ k / 2 * 2 + v) / 2 = p / 2 ^ k / 2 by omega]
theorem setb_comm (p j w k v : Nat) (hne : j ≠ k) (hw : w ≤ 1) (hv : v ≤ 1) : setb (setb p j w) k v = setb (setb p k v) j w := by
  refine Nat.eq_of_testBit_eq fun i => ?_
  rw [Nat.testBit_eq_decide_div_mod_eq, Nat.testBit_eq_decide_div_mod_eq, setb_bit _ _ _ _ hv, setb_bit _ _ _ _ hw, setb_bit _ _ _ _ hw, setb_bit _ _ _ _ hv]
  by_cases h1 : i = k
  · subst h1
    rw [if_pos rfl, if_neg (fun z => hne z.symm), if_pos rfl]
  · rw [if_neg h1, if_neg h1]
theorem and_bit (p k : Nat) : p &&& 2 ^ k = p / 2 ^ k % 2 * 2 ^ k := by
  refine Nat.eq_of_testBit_eq fun i => ?_
  rw [Nat.testBit_and, Nat.testBit_two_pow]
  have ht : p / 2 ^ k % 2 = 0 ∨ p / 2 ^ k % 2 = 1 := by omega
  rcases ht with ht | ht
  · rw [ht, Nat.zero_mul, Nat.zero_testBit]
    by_cases hi : k = i
    · subst hi
      rw [Nat.testBit_eq_decide_div_mod_eq, ht]
      rfl
    · rw [decide_eq_false hi, Bool.and_false]
  · rw [ht, Nat.one_mul, Nat.testBit_two_pow]
    by_cases hi : k = i
    · subst hi
      rw [Nat.testBit_eq_decide_div_mod_eq, ht]
      rfl
    · rw [decide_eq_false hi, Bool.and_false]
theorem nOr (p k : Nat) : binD .BitOr (nD p) (nD (2 ^ k)) = some (nD (setb p k 1), false) := by
  show some (D.int (Builtin.bitOr (p : Int) ((2 ^ k : Nat) : Int)), false) = _
  rw [PyProof.Rows.bitOr_and, and_nat, and_bit, ← setb_eq]
  have := setb_sub p k
  congr 3
  omega
theorem nClr (p k : Nat) : binD .BitAnd (nD p) (.int (Builtin.bitNot ((2 ^ k : Nat) : Int))) = some (nD (setb p k 0), false) := by
  show some (D.int (Builtin.bitAnd (p : Int) (Builtin.bitNot ((2 ^ k : Nat) : Int))), false) = _
  rw [PyProof.Rows.bitAnd_not, and_nat, and_bit, ← setb_eq]
  have := setb_sub p k
  congr 3
  omega
theorem uInv (x : Nat) : unD .Invert (nD x) = some (.int (Builtin.bitNot (x : Int))) := rfl
theorem f31_ok (k p j v : Nat) (hj : j ≤ 1000) (hv : v ≤ 1) (h : 2 ≤ k) : (fnEval G k 31 [.sh (nD p), .sh (nD j), .sh (nD v)]).res = .ok (nD (setb p j v)) false := by
  obtain ⟨k, rfl⟩ : ∃ j, k = j + 1 := ⟨k - 1, by omega⟩
  rw [fn_at k [.sh (nD p), .sh (nD j), .sh (nD v)] [.sh (nD p), .sh (nD j), .sh (nD v)] (show G.fns[31]? = some f31 from rfl) rfl rfl]
  have t := two k j (by omega) (by omega)
  have o := nOr p j
  have c := nClr p j
  generalize 2 ^ j = w at t o c ⊢
  have : v = 0 ∨ v = 1 := by omega
  rcases this with rfl | rfl
  · generalize setb p j 0 = r at c ⊢
    have i := uInv w
    generalize Builtin.bitNot (w : Int) = bn at i c
    simp [t, i, c, exR, evR, lineOk, sizeLine_eq, ofX, ofF, noR, R.out, R.bind, R.of, with1, with2, withs, Bor.res, Bor.frz, ress, frzs, bl2, dat, Sl.get?, Sl.frz, mkSl, Out.res, Res.put, mkArgs, ioAt, doCall, putIos, nd0, nd1, ndl, ndc, nAdd, nSub, nMul, nDiv, nMod, nShl, nShr, nAnd, nXor, nPow, sAdd, lAdd, rAdd, tAdd, lMul, sMul, cEqN, cEqS, cEqB, cNeN, cNeS, cNeB, cLt, cLe, cGt, cGe, cIs, cIsN, isNonN, isNonS, isNonL, isNonR, isNonT, isNonB, isNon0, inS, ninS, tN, tB, tL, tT, tR, t0, bLenL, bLenT, bLenR, bLenS, bIntN, bMin, bMax, bSum, bLstL, bLstT, bTupL, bTupT, ixL, ixT, ixR, ixS, isiN, isiR, flatN, flatR, mutN, mutR, itR, itL, itT, itS, cNilR, cNilN, cNilL, cNilM, meTyJ, inR, ninR, flat0, flatB, flatI, flatS, flatF, flatL, flatT, flatD, mut0, mutB, mutI, mutS, mutF, mutL, mutT, mutD, isi0, isiB, isiI, isiS, isiL, isiT, isiDc, muOk, muTyR, muTyL, muAR, muAL, rMul, setR, bAbs]
  · simp [t, o, exR, evR, lineOk, sizeLine_eq, ofX, ofF, noR, R.out, R.bind, R.of, with1, with2, withs, Bor.res, Bor.frz, ress, frzs, bl2, dat, Sl.get?, Sl.frz, mkSl, Out.res, Res.put, mkArgs, ioAt, doCall, putIos, nd0, nd1, ndl, ndc, nAdd, nSub, nMul, nDiv, nMod, nShl, nShr, nAnd, nXor, nPow, sAdd, lAdd, rAdd, tAdd, lMul, sMul, cEqN, cEqS, cEqB, cNeN, cNeS, cNeB, cLt, cLe, cGt, cGe, cIs, cIsN, isNonN, isNonS, isNonL, isNonR, isNonT, isNonB, isNon0, inS, ninS, tN, tB, tL, tT, tR, t0, bLenL, bLenT, bLenR, bLenS, bIntN, bMin, bMax, bSum, bLstL, bLstT, bTupL, bTupT, ixL, ixT, ixR, ixS, isiN, isiR, flatN, flatR, mutN, mutR, itR, itL, itT, itS, cNilR, cNilN, cNilL, cNilM, meTyJ, inR, ninR, flat0, flatB, flatI, flatS, flatF, flatL, flatT, flatD, mut0, mutB, mutI, mutS, mutF, mutL, mutT, mutD, isi0, isiB, isiI, isiS, isiL, isiT, isiDc, muOk, muTyR, muTyL, muAR, muAL, rMul, setR, bAbs]
section
variable (k : Nat) {n : Nat} (hn : n ≤ 10) (b c : Nat → Bool)
include hn
theorem f22_ok (h : 5 ≤ k) : (fnEval G k 22 [.sh (fD n b), .sh (fD n c)]).res = .ok (fD n fun p => b p && c p) false := by
  obtain ⟨k, rfl⟩ : ∃ j, k = j + 1 := ⟨k - 1, by omega⟩
  rw [fn_at k [.sh (fD n b), .sh (fD n c)] [.sh (fD n b), .sh (fD n c)] (show G.fns[22]? = some f22 from rfl) rfl rfl]
  have c1 := f8_ok k hn b c (by omega)
  have c2 := f21_ok k hn b c (by omega)
  generalize fD n (fun p => b p && c p) = r at c2 ⊢
  simp [c1, c2, exR, evR, lineOk, sizeLine_eq, ofX, ofF, noR, R.out, R.bind, R.of, with1, with2, withs, Bor.res, Bor.frz, ress, frzs, bl2, dat, Sl.get?, Sl.frz, mkSl, Out.res, Res.put, mkArgs, ioAt, doCall, putIos, nd0, nd1, ndl, ndc, nAdd, nSub, nMul, nDiv, nMod, nShl, nShr, nAnd, nXor, nPow, sAdd, lAdd, rAdd, tAdd, lMul, sMul, cEqN, cEqS, cEqB, cNeN, cNeS, cNeB, cLt, cLe, cGt, cGe, cIs, cIsN, isNonN, isNonS, isNonL, isNonR, isNonT, isNonB, isNon0, inS, ninS, tN, tB, tL, tT, tR, t0, bLenL, bLenT, bLenR, bLenS, bIntN, bMin, bMax, bSum, bLstL, bLstT, bTupL, bTupT, ixL, ixT, ixR, ixS, isiN, isiR, flatN, flatR, mutN, mutR, itR, itL, itT, itS, cNilR, cNilN, cNilL, cNilM, meTyJ, inR, ninR, flat0, flatB, flatI, flatS, flatF, flatL, flatT, flatD, mut0, mutB, mutI, mutS, mutF, mutL, mutT, mutD, isi0, isiB, isiI, isiS, isiL, isiT, isiDc, muOk, muTyR, muTyL, muAR, muAL, rMul, setR, bAbs]
theorem f24_ok (h : 5 ≤ k) : (fnEval G k 24 [.sh (fD n b), .sh (fD n c)]).res = .ok (fD n fun p => b p || c p) false := by
  obtain ⟨k, rfl⟩ : ∃ j, k = j + 1 := ⟨k - 1, by omega⟩
  rw [fn_at k [.sh (fD n b), .sh (fD n c)] [.sh (fD n b), .sh (fD n c)] (show G.fns[24]? = some f24 from rfl) rfl rfl]
  have c1 := f8_ok k hn b c (by omega)
  have c2 := f23_ok k hn b c (by omega)
  generalize fD n (fun p => b p || c p) = r at c2 ⊢
  simp [c1, c2, exR, evR, lineOk, sizeLine_eq, ofX, ofF, noR, R.out, R.bind, R.of, with1, with2, withs, Bor.res, Bor.frz, ress, frzs, bl2, dat, Sl.get?, Sl.frz, mkSl, Out.res, Res.put, mkArgs, ioAt, doCall, putIos, nd0, nd1, ndl, ndc, nAdd, nSub, nMul, nDiv, nMod, nShl, nShr, nAnd, nXor, nPow, sAdd, lAdd, rAdd, tAdd, lMul, sMul, cEqN, cEqS, cEqB, cNeN, cNeS, cNeB, cLt, cLe, cGt, cGe, cIs, cIsN, isNonN, isNonS, isNonL, isNonR, isNonT, isNonB, isNon0, inS, ninS, tN, tB, tL, tT, tR, t0, bLenL, bLenT, bLenR, bLenS, bIntN, bMin, bMax, bSum, bLstL, bLstT, bTupL, bTupT, ixL, ixT, ixR, ixS, isiN, isiR, flatN, flatR, mutN, mutR, itR, itL, itT, itS, cNilR, cNilN, cNilL, cNilM, meTyJ, inR, ninR, flat0, flatB, flatI, flatS, flatF, flatL, flatT, flatD, mut0, mutB, mutI, mutS, mutF, mutL, mutT, mutD, isi0, isiB, isiI, isiS, isiL, isiT, isiDc, muOk, muTyR, muTyL, muAR, muAL, rMul, setR, bAbs]
theorem f26_ok (h : 5 ≤ k) : (fnEval G k 26 [.sh (fD n b), .sh (fD n c)]).res = .ok (fD n fun p => b p != c p) false := by
  obtain ⟨k, rfl⟩ : ∃ j, k = j + 1 := ⟨k - 1, by omega⟩
  rw [fn_at k [.sh (fD n b), .sh (fD n c)] [.sh (fD n b), .sh (fD n c)] (show G.fns[26]? = some f26 from rfl) rfl rfl]
  have c1 := f8_ok k hn b c (by omega)
  have c2 := f25_ok k hn b c (by omega)
  generalize fD n (fun p => b p != c p) = r at c2 ⊢
  simp [c1, c2, exR, evR, lineOk, sizeLine_eq, ofX, ofF, noR, R.out, R.bind, R.of, with1, with2, withs, Bor.res, Bor.frz, ress, frzs, bl2, dat, Sl.get?, Sl.frz, mkSl, Out.res, Res.put, mkArgs, ioAt, doCall, putIos, nd0, nd1, ndl, ndc, nAdd, nSub, nMul, nDiv, nMod, nShl, nShr, nAnd, nXor, nPow, sAdd, lAdd, rAdd, tAdd, lMul, sMul, cEqN, cEqS, cEqB, cNeN, cNeS, cNeB, cLt, cLe, cGt, cGe, cIs, cIsN, isNonN, isNonS, isNonL, isNonR, isNonT, isNonB, isNon0, inS, ninS, tN, tB, tL, tT, tR, t0, bLenL, bLenT, bLenR, bLenS, bIntN, bMin, bMax, bSum, bLstL, bLstT, bTupL, bTupT, ixL, ixT, ixR, ixS, isiN, isiR, flatN, flatR, mutN, mutR, itR, itL, itT, itS, cNilR, cNilN, cNilL, cNilM, meTyJ, inR, ninR, flat0, flatB, flatI, flatS, flatF, flatL, flatT, flatD, mut0, mutB, mutI, mutS, mutF, mutL, mutT, mutD, isi0, isiB, isiI, isiS, isiL, isiT, isiDc, muOk, muTyR, muTyL, muAR, muAL, rMul, setR, bAbs]
def wiB (n : Nat) (b c : Nat → Bool) : Bool := ((List.range (2 ^ n)).filter fun p => b p && !c p).isEmpty
theorem f27_ok (h : 1 ≤ k) : (fnEval G k 27 [.sh (fD n b), .sh (fD n c)]).res = .ok (.bl (wiB n b c)) false := by
  obtain ⟨k, rfl⟩ : ∃ j, k = j + 1 := ⟨k - 1, by omega⟩
  rw [fn_at k [.sh (fD n b), .sh (fD n c)] [.sh (fD n b), .sh (fD n c), .no] (show G.fns[27]? = some f27 from rfl) rfl rfl]
  have p2 := p2le hn
  have cc : (evR G (fnEval G k) F27c0).f [.sh (fD n b), .sh (fD n c), .no] = .ok (rowsD ((List.range (2 ^ n)).filter fun p => b p && !c p), true) [.sh (fD n b), .sh (fD n c), .no] := by
    refine comp_det (List.range (2 ^ n)) nD (fun p => b p && !c p) nD (rngF hn b _ _ rfl) (by simp; omega) (fun p hp => ?_) (fun _ _ _ => ⟨false, rfl⟩)
    have i := ixTx b hn (show p < 2 ^ n by simpa using hp)
    have i2 := ixTx c hn (show p < 2 ^ n by simpa using hp)
    generalize b p = x at i ⊢
    generalize c p = y at i2 ⊢
    have e1 := cEq1 x
    have e2 := cEq0 y
    cases x <;> simp [i, i2, e1, e2, ixF1, exR, evR, lineOk, sizeLine_eq, ofX, ofF, noR, R.out, R.bind, R.of, with1, with2, withs, Bor.res, Bor.frz, ress, frzs, bl2, dat, Sl.get?, Sl.frz, mkSl, Out.res, Res.put, mkArgs, ioAt, doCall, putIos, nd0, nd1, ndl, ndc, nAdd, nSub, nMul, nDiv, nMod, nShl, nShr, nAnd, nXor, nPow, sAdd, lAdd, rAdd, tAdd, lMul, sMul, cEqN, cEqB, cNeN, cNeB, cLt, cLe, cGt, cGe, cIs, cIsN, isNonN, isNonS, isNonL, isNonR, isNonT, isNonB, isNon0, inS, ninS, tN, tB, tL, tT, tR, t0, bLenL, bLenT, bLenR, bLenS, bIntN, bMin, bMax, bSum, bLstL, bLstT, bTupL, bTupT, ixL, ixT, ixR, ixS, isiN, isiR, flatN, flatR, mutN, mutR, itR, itL, itT, itS, cNilR, cNilN, cNilL, cNilM, meTyJ, inR, ninR, flat0, flatB, flatI, flatS, flatF, flatL, flatT, flatD, mut0, mutB, mutI, mutS, mutF, mutL, mutT, mutD, isi0, isiB, isiI, isiS, isiL, isiT, isiDc, muOk, muTyR, muTyL, muAR, muAL, rMul, setR, bAbs]
  unfold wiB
  generalize ((List.range (2 ^ n)).filter fun p => b p && !c p) = l at cc ⊢
  simp [cc, -List.isEmpty_iff, exR, evR, lineOk, sizeLine_eq, ofX, ofF, noR, R.out, R.bind, R.of, with1, with2, withs, Bor.res, Bor.frz, ress, frzs, bl2, dat, Sl.get?, Sl.frz, mkSl, Out.res, Res.put, mkArgs, ioAt, doCall, putIos, nd0, nd1, ndl, ndc, nAdd, nSub, nMul, nDiv, nMod, nShl, nShr, nAnd, nXor, nPow, sAdd, lAdd, rAdd, tAdd, lMul, sMul, cEqN, cEqS, cEqB, cNeN, cNeS, cNeB, cLt, cLe, cGt, cGe, cIs, cIsN, isNonN, isNonS, isNonL, isNonR, isNonT, isNonB, isNon0, inS, ninS, tN, tB, tL, tT, tR, t0, bLenL, bLenT, bLenR, bLenS, bIntN, bMin, bMax, bSum, bLstL, bLstT, bTupL, bTupT, ixL, ixT, ixR, ixS, isiN, isiR, flatN, flatR, mutN, mutR, itR, itL, itT, itS, cNilR, cNilN, cNilL, cNilM, meTyJ, inR, ninR, flat0, flatB, flatI, flatS, flatF, flatL, flatT, flatD, mut0, mutB, mutI, mutS, mutF, mutL, mutT, mutD, isi0, isiB, isiI, isiS, isiL, isiT, isiDc, muOk, muTyR, muTyL, muAR, muAL, rMul, setR, bAbs]
theorem f28_ok (h : 5 ≤ k) : (fnEval G k 28 [.sh (fD n b), .sh (fD n c)]).res = .ok (.bl (wiB n b c)) false := by
  obtain ⟨k, rfl⟩ : ∃ j, k = j + 1 := ⟨k - 1, by omega⟩
  rw [fn_at k [.sh (fD n b), .sh (fD n c)] [.sh (fD n b), .sh (fD n c)] (show G.fns[28]? = some f28 from rfl) rfl rfl]
  have c1 := f8_ok k hn b c (by omega)
  have c2 := f27_ok k hn b c (by omega)
  simp [c1, c2, exR, evR, lineOk, sizeLine_eq, ofX, ofF, noR, R.out, R.bind, R.of, with1, with2, withs, Bor.res, Bor.frz, ress, frzs, bl2, dat, Sl.get?, Sl.frz, mkSl, Out.res, Res.put, mkArgs, ioAt, doCall, putIos, nd0, nd1, ndl, ndc, nAdd, nSub, nMul, nDiv, nMod, nShl, nShr, nAnd, nXor, nPow, sAdd, lAdd, rAdd, tAdd, lMul, sMul, cEqN, cEqS, cEqB, cNeN, cNeS, cNeB, cLt, cLe, cGt, cGe, cIs, cIsN, isNonN, isNonS, isNonL, isNonR, isNonT, isNonB, isNon0, inS, ninS, tN, tB, tL, tT, tR, t0, bLenL, bLenT, bLenR, bLenS, bIntN, bMin, bMax, bSum, bLstL, bLstT, bTupL, bTupT, ixL, ixT, ixR, ixS, isiN, isiR, flatN, flatR, mutN, mutR, itR, itL, itT, itS, cNilR, cNilN, cNilL, cNilM, meTyJ, inR, ninR, flat0, flatB, flatI, flatS, flatF, flatL, flatT, flatD, mut0, mutB, mutI, mutS, mutF, mutL, mutT, mutD, isi0, isiB, isiI, isiS, isiL, isiT, isiDc, muOk, muTyR, muTyL, muAR, muAL, rMul, setR, bAbs]
def difL (n : Nat) (b c : Nat → Bool) : List Nat := (List.range (2 ^ n)).filter fun p => b p != c p
theorem f29_ok (h : 5 ≤ k) : (fnEval G k 29 [.sh (fD n b), .sh (fD n c)]).res = .ok (if (difL n b c).length > 0 then nD ((difL n b c).getD 0 0) else .non) false := by
  obtain ⟨k, rfl⟩ : ∃ j, k = j + 1 := ⟨k - 1, by omega⟩
  rw [fn_at k [.sh (fD n b), .sh (fD n c)] [.sh (fD n b), .sh (fD n c), .no, .no] (show G.fns[29]? = some f29 from rfl) rfl rfl]
  have p2 := p2le hn
  have c1 := f8_ok k hn b c (by omega)
  have cc : (evR G (fnEval G k) F29c0).f [.sh (fD n b), .sh (fD n c), .no, .no] = .ok (rowsD (difL n b c), true) [.sh (fD n b), .sh (fD n c), .no, .no] := by
    refine comp_det (List.range (2 ^ n)) nD (fun p => b p != c p) nD (rngF hn b _ _ rfl) (by simp; omega) (fun p hp => ?_) (fun _ _ _ => ⟨false, rfl⟩)
    have i := ixTx b hn (show p < 2 ^ n by simpa using hp)
    have i2 := ixTx c hn (show p < 2 ^ n by simpa using hp)
    generalize b p = x at i ⊢
    generalize c p = y at i2 ⊢
    have e1 := cNeC x y
    generalize ch x = u at i e1 ⊢
    generalize ch y = w at i2 e1 ⊢
    generalize (x != y) = z at e1 ⊢
    simp [i, i2, e1, ixF1, exR, evR, lineOk, sizeLine_eq, ofX, ofF, noR, R.out, R.bind, R.of, with1, with2, withs, Bor.res, Bor.frz, ress, frzs, bl2, dat, Sl.get?, Sl.frz, mkSl, Out.res, Res.put, mkArgs, ioAt, doCall, putIos, nd0, nd1, ndl, ndc, nAdd, nSub, nMul, nDiv, nMod, nShl, nShr, nAnd, nXor, nPow, sAdd, lAdd, rAdd, tAdd, lMul, sMul, cEqN, cEqB, cNeN, cNeB, cLt, cLe, cGt, cGe, cIs, cIsN, isNonN, isNonS, isNonL, isNonR, isNonT, isNonB, isNon0, inS, ninS, tN, tB, tL, tT, tR, t0, bLenL, bLenT, bLenR, bLenS, bIntN, bMin, bMax, bSum, bLstL, bLstT, bTupL, bTupT, ixL, ixT, ixR, ixS, isiN, isiR, flatN, flatR, mutN, mutR, itR, itL, itT, itS, cNilR, cNilN, cNilL, cNilM, meTyJ, inR, ninR, flat0, flatB, flatI, flatS, flatF, flatL, flatT, flatD, mut0, mutB, mutI, mutS, mutF, mutL, mutT, mutD, isi0, isiB, isiI, isiS, isiL, isiT, isiDc, muOk, muTyR, muTyL, muAR, muAL, rMul, setR, bAbs]
  refine go_expr (Is _) (x := (.non, false)) (e1 := [.sh (fD n b), .sh (fD n c), .no, .no]) (by simp [c1, exR, evR, lineOk, sizeLine_eq, ofX, ofF, noR, R.out, R.bind, R.of, with1, with2, withs, Bor.res, Bor.frz, ress, frzs, bl2, dat, Sl.get?, Sl.frz, mkSl, Out.res, Res.put, mkArgs, ioAt, doCall, putIos, nd0, nd1, ndl, ndc, nAdd, nSub, nMul, nDiv, nMod, nShl, nShr, nAnd, nXor, nPow, sAdd, lAdd, rAdd, tAdd, lMul, sMul, cEqN, cEqS, cEqB, cNeN, cNeS, cNeB, cLt, cLe, cGt, cGe, cIs, cIsN, isNonN, isNonS, isNonL, isNonR, isNonT, isNonB, isNon0, inS, ninS, tN, tB, tL, tT, tR, t0, bLenL, bLenT, bLenR, bLenS, bIntN, bMin, bMax, bSum, bLstL, bLstT, bTupL, bTupT, ixL, ixT, ixR, ixS, isiN, isiR, flatN, flatR, mutN, mutR, itR, itL, itT, itS, cNilR, cNilN, cNilL, cNilM, meTyJ, inR, ninR, flat0, flatB, flatI, flatS, flatF, flatL, flatT, flatD, mut0, mutB, mutI, mutS, mutF, mutL, mutT, mutD, isi0, isiB, isiI, isiS, isiL, isiT, isiDc, muOk, muTyR, muTyL, muAR, muAL, rMul, setR, bAbs]) ?_
  refine go_asg (Is _) cc rfl ?_
  show Is _ ((exR G (fnEval G k) [] _).x [.sh (fD n b), .sh (fD n c), .ow (rowsD (difL n b c)), .no])
  generalize difL n b c = l
  cases l with
  | nil =>
    refine go_ret (Is _) (x := (.non, false)) (e1 := [.sh (fD n b), .sh (fD n c), .ow (rowsD []), .no]) (by intro i h; cases h) (by simp [exR, evR, lineOk, sizeLine_eq, ofX, ofF, noR, R.out, R.bind, R.of, with1, with2, withs, Bor.res, Bor.frz, ress, frzs, bl2, dat, Sl.get?, Sl.frz, mkSl, Out.res, Res.put, mkArgs, ioAt, doCall, putIos, nd0, nd1, ndl, ndc, nAdd, nSub, nMul, nDiv, nMod, nShl, nShr, nAnd, nXor, nPow, sAdd, lAdd, rAdd, tAdd, lMul, sMul, cEqN, cEqS, cEqB, cNeN, cNeS, cNeB, cLt, cLe, cGt, cGe, cIs, cIsN, isNonN, isNonS, isNonL, isNonR, isNonT, isNonB, isNon0, inS, ninS, tN, tB, tL, tT, tR, t0, bLenL, bLenT, bLenR, bLenS, bIntN, bMin, bMax, bSum, bLstL, bLstT, bTupL, bTupT, ixL, ixT, ixR, ixS, isiN, isiR, flatN, flatR, mutN, mutR, itR, itL, itT, itS, cNilR, cNilN, cNilL, cNilM, meTyJ, inR, ninR, flat0, flatB, flatI, flatS, flatF, flatL, flatT, flatD, mut0, mutB, mutI, mutS, mutF, mutL, mutT, mutD, isi0, isiB, isiI, isiS, isiL, isiT, isiDc, muOk, muTyR, muTyL, muAR, muAL, rMul, setR, bAbs]) ?_
    rfl
  | cons a l =>
    have i := ixR (l := a :: l) (j := 0) (by simp)
    refine go_ret (Is _) (x := (nD a, false)) (e1 := [.sh (fD n b), .sh (fD n c), .ow (rowsD (a :: l)), .no]) (by intro i h; cases h) (by simp at i; simp [i, exR, evR, lineOk, sizeLine_eq, ofX, ofF, noR, R.out, R.bind, R.of, with1, with2, withs, Bor.res, Bor.frz, ress, frzs, bl2, dat, Sl.get?, Sl.frz, mkSl, Out.res, Res.put, mkArgs, ioAt, doCall, putIos, nd0, nd1, ndl, ndc, nAdd, nSub, nMul, nDiv, nMod, nShl, nShr, nAnd, nXor, nPow, sAdd, lAdd, rAdd, tAdd, lMul, sMul, cEqN, cEqS, cEqB, cNeN, cNeS, cNeB, cLt, cLe, cGt, cGe, cIs, cIsN, isNonN, isNonS, isNonL, isNonR, isNonT, isNonB, isNon0, inS, ninS, tN, tB, tL, tT, tR, t0, bLenL, bLenT, bLenR, bLenS, bIntN, bMin, bMax, bSum, bLstL, bLstT, bTupL, bTupT, ixL, ixT, ixR, ixS, isiN, isiR, flatN, flatR, mutN, mutR, itR, itL, itT, itS, cNilR, cNilN, cNilL, cNilM, meTyJ, inR, ninR, flat0, flatB, flatI, flatS, flatF, flatL, flatT, flatD, mut0, mutB, mutI, mutS, mutF, mutL, mutT, mutD, isi0, isiB, isiI, isiS, isiL, isiT, isiDc, muOk, muTyR, muTyL, muAR, muAL, rMul, setR, bAbs]) ?_
    rfl
theorem f30_ok (d : Nat → Bool) (h : 5 ≤ k) : (fnEval G k 30 [.sh (fD n b), .sh (fD n c), .sh (fD n d)]).res = .ok (fD n fun p => if b p = true then c p else d p) false := by
  obtain ⟨k, rfl⟩ : ∃ j, k = j + 1 := ⟨k - 1, by omega⟩
  rw [fn_at k [.sh (fD n b), .sh (fD n c), .sh (fD n d)] [.sh (fD n b), .sh (fD n c), .sh (fD n d), .no] (show G.fns[30]? = some f30 from rfl) rfl rfl]
  have p2 := p2le hn
  have c1 := f8_ok k hn b c (by omega)
  have c2 := chkf k n d hn (by omega)
  have cc : (evR G (fnEval G k) F30c0).f [.sh (fD n b), .sh (fD n c), .sh (fD n d), .no] = .ok (.lst ((List.range (2 ^ n)).map fun p => .str [ch (if b p = true then c p else d p)]), true) [.sh (fD n b), .sh (fD n c), .sh (fD n d), .no] := by
    refine comp_all (List.range (2 ^ n)) nD (fun p => .str [ch (if b p = true then c p else d p)]) (rngF hn b _ _ rfl) (by simp; omega) (fun p hp => ⟨false, ?_⟩)
    have i := ixTx b hn (show p < 2 ^ n by simpa using hp)
    have i2 := ixTx c hn (show p < 2 ^ n by simpa using hp)
    have i3 := ixTx d hn (show p < 2 ^ n by simpa using hp)
    generalize b p = x at i ⊢
    generalize c p = y at i2 ⊢
    generalize d p = z at i3 ⊢
    have e1 := cEq1 x
    cases x <;> simp [i, i2, i3, e1, ixF1, exR, evR, lineOk, sizeLine_eq, ofX, ofF, noR, R.out, R.bind, R.of, with1, with2, withs, Bor.res, Bor.frz, ress, frzs, bl2, dat, Sl.get?, Sl.frz, mkSl, Out.res, Res.put, mkArgs, ioAt, doCall, putIos, nd0, nd1, ndl, ndc, nAdd, nSub, nMul, nDiv, nMod, nShl, nShr, nAnd, nXor, nPow, sAdd, lAdd, rAdd, tAdd, lMul, sMul, cEqN, cEqB, cNeN, cNeB, cLt, cLe, cGt, cGe, cIs, cIsN, isNonN, isNonS, isNonL, isNonR, isNonT, isNonB, isNon0, inS, ninS, tN, tB, tL, tT, tR, t0, bLenL, bLenT, bLenR, bLenS, bIntN, bMin, bMax, bSum, bLstL, bLstT, bTupL, bTupT, ixL, ixT, ixR, ixS, isiN, isiR, flatN, flatR, mutN, mutR, itR, itL, itT, itS, cNilR, cNilN, cNilL, cNilM, meTyJ, inR, ninR, flat0, flatB, flatI, flatS, flatF, flatL, flatT, flatD, mut0, mutB, mutI, mutS, mutF, mutL, mutT, mutD, isi0, isiB, isiI, isiS, isiL, isiT, isiDc, muOk, muTyR, muTyL, muAR, muAL, rMul, setR, bAbs]
  have j := join_map (List.range (2 ^ n)) (fun p => ch (if b p = true then c p else d p)) (by simp; omega)
  have e0 : fD n (fun p => if b p = true then c p else d p) = .tup [nD n, .str ((List.range (2 ^ n)).map fun p => ch (if b p = true then c p else d p))] := rfl
  rw [e0]
  generalize ((List.range (2 ^ n)).map fun p => ch (if b p = true then c p else d p)) = js at j ⊢
  generalize ((List.range (2 ^ n)).map fun p => D.str [ch (if b p = true then c p else d p)]) = ds at j cc
  simp [c1, c2, cc, j, ixF0, exR, evR, lineOk, sizeLine_eq, ofX, ofF, noR, R.out, R.bind, R.of, with1, with2, withs, Bor.res, Bor.frz, ress, frzs, bl2, dat, Sl.get?, Sl.frz, mkSl, Out.res, Res.put, mkArgs, ioAt, doCall, putIos, nd0, nd1, ndl, ndc, nAdd, nSub, nMul, nDiv, nMod, nShl, nShr, nAnd, nXor, nPow, sAdd, lAdd, rAdd, tAdd, lMul, sMul, cEqN, cEqS, cEqB, cNeN, cNeS, cNeB, cLt, cLe, cGt, cGe, cIs, cIsN, isNonN, isNonS, isNonL, isNonR, isNonT, isNonB, isNon0, inS, ninS, tN, tB, tL, tT, tR, t0, bLenL, bLenT, bLenR, bLenS, bIntN, bMin, bMax, bSum, bLstL, bLstT, bTupL, bTupT, ixL, ixT, ixR, ixS, isiN, isiR, flatN, flatR, mutN, mutR, itR, itL, itT, itS, cNilR, cNilN, cNilL, cNilM, meTyJ, inR, ninR, flat0, flatB, flatI, flatS, flatF, flatL, flatT, flatD, mut0, mutB, mutI, mutS, mutF, mutL, mutT, mutD, isi0, isiB, isiI, isiS, isiL, isiT, isiDc, muOk, muTyR, muTyL, muAR, muAL, rMul, setR, bAbs]
theorem f32_ok (j v : Nat) (hj : j < n) (hv : v ≤ 1) (h : 3 ≤ k) : (fnEval G k 32 [.sh (fD n b), .sh (nD j), .sh (nD v)]).res = .ok (fD n fun p => b (setb p j v)) false := by
  obtain ⟨k, rfl⟩ : ∃ j, k = j + 1 := ⟨k - 1, by omega⟩
  rw [fn_at k [.sh (fD n b), .sh (nD j), .sh (nD v)] [.sh (fD n b), .sh (nD j), .sh (nD v), .no] (show G.fns[32]? = some f32 from rfl) rfl rfl]
  have p2 := p2le hn
  have cc : (evR G (fnEval G k) F32c0).f [.sh (fD n b), .sh (nD j), .sh (nD v), .no] = .ok (.lst ((List.range (2 ^ n)).map fun p => .str [ch (b (setb p j v))]), true) [.sh (fD n b), .sh (nD j), .sh (nD v), .no] := by
    refine comp_all (List.range (2 ^ n)) nD (fun p => .str [ch (b (setb p j v))]) (rngF hn b _ _ rfl) (by simp; omega) (fun p hp => ⟨false, ?_⟩)
    have w := f31_ok k p j v (by omega) hv (by omega)
    have i := ixTx b hn (setb_lt (show p < 2 ^ n by simpa using hp) hj hv)
    generalize setb p j v = q at w i ⊢
    simp [w, i, ixF1, exR, evR, lineOk, sizeLine_eq, ofX, ofF, noR, R.out, R.bind, R.of, with1, with2, withs, Bor.res, Bor.frz, ress, frzs, bl2, dat, Sl.get?, Sl.frz, mkSl, Out.res, Res.put, mkArgs, ioAt, doCall, putIos, nd0, nd1, ndl, ndc, nAdd, nSub, nMul, nDiv, nMod, nShl, nShr, nAnd, nXor, nPow, sAdd, lAdd, rAdd, tAdd, lMul, sMul, cEqN, cEqS, cEqB, cNeN, cNeS, cNeB, cLt, cLe, cGt, cGe, cIs, cIsN, isNonN, isNonS, isNonL, isNonR, isNonT, isNonB, isNon0, inS, ninS, tN, tB, tL, tT, tR, t0, bLenL, bLenT, bLenR, bLenS, bIntN, bMin, bMax, bSum, bLstL, bLstT, bTupL, bTupT, ixL, ixT, ixR, ixS, isiN, isiR, flatN, flatR, mutN, mutR, itR, itL, itT, itS, cNilR, cNilN, cNilL, cNilM, meTyJ, inR, ninR, flat0, flatB, flatI, flatS, flatF, flatL, flatT, flatD, mut0, mutB, mutI, mutS, mutF, mutL, mutT, mutD, isi0, isiB, isiI, isiS, isiL, isiT, isiDc, muOk, muTyR, muTyL, muAR, muAL, rMul, setR, bAbs]
  have jm := join_map (List.range (2 ^ n)) (fun p => ch (b (setb p j v))) (by simp; omega)
  have e0 : fD n (fun p => b (setb p j v)) = .tup [nD n, .str ((List.range (2 ^ n)).map fun p => ch (b (setb p j v)))] := rfl
  rw [e0]
  simp [cc, jm, ixF0, exR, evR, lineOk, sizeLine_eq, ofX, ofF, noR, R.out, R.bind, R.of, with1, with2, withs, Bor.res, Bor.frz, ress, frzs, bl2, dat, Sl.get?, Sl.frz, mkSl, Out.res, Res.put, mkArgs, ioAt, doCall, putIos, nd0, nd1, ndl, ndc, nAdd, nSub, nMul, nDiv, nMod, nShl, nShr, nAnd, nXor, nPow, sAdd, lAdd, rAdd, tAdd, lMul, sMul, cEqN, cEqS, cEqB, cNeN, cNeS, cNeB, cLt, cLe, cGt, cGe, cIs, cIsN, isNonN, isNonS, isNonL, isNonR, isNonT, isNonB, isNon0, inS, ninS, tN, tB, tL, tT, tR, t0, bLenL, bLenT, bLenR, bLenS, bIntN, bMin, bMax, bSum, bLstL, bLstT, bTupL, bTupT, ixL, ixT, ixR, ixS, isiN, isiR, flatN, flatR, mutN, mutR, itR, itL, itT, itS, cNilR, cNilN, cNilL, cNilM, meTyJ, inR, ninR, flat0, flatB, flatI, flatS, flatF, flatL, flatT, flatD, mut0, mutB, mutI, mutS, mutF, mutL, mutT, mutD, isi0, isiB, isiI, isiS, isiL, isiT, isiDc, muOk, muTyR, muTyL, muAR, muAL, rMul, setR, bAbs]
theorem f33_ok (j v : Nat) (hj : j < n) (hv : v ≤ 1) (h : 4 ≤ k) : (fnEval G k 33 [.sh (fD n b), .sh (nD j), .sh (nD v)]).res = .ok (fD n fun p => b (setb p j v)) false := by
  obtain ⟨k, rfl⟩ : ∃ j, k = j + 1 := ⟨k - 1, by omega⟩
  rw [fn_at k [.sh (fD n b), .sh (nD j), .sh (nD v)] [.sh (fD n b), .sh (nD j), .sh (nD v)] (show G.fns[33]? = some f33 from rfl) rfl rfl]
  have c1 := chkf k n b hn (by omega)
  have c2 := f10_ok k hn b j hj (by omega)
  have c3 := f11_ok k v hv (by omega)
  have c4 := f32_ok k hn b j v hj hv (by omega)
  generalize fD n (fun p => b (setb p j v)) = r at c4 ⊢
  simp [c1, c2, c3, c4, exR, evR, lineOk, sizeLine_eq, ofX, ofF, noR, R.out, R.bind, R.of, with1, with2, withs, Bor.res, Bor.frz, ress, frzs, bl2, dat, Sl.get?, Sl.frz, mkSl, Out.res, Res.put, mkArgs, ioAt, doCall, putIos, nd0, nd1, ndl, ndc, nAdd, nSub, nMul, nDiv, nMod, nShl, nShr, nAnd, nXor, nPow, sAdd, lAdd, rAdd, tAdd, lMul, sMul, cEqN, cEqS, cEqB, cNeN, cNeS, cNeB, cLt, cLe, cGt, cGe, cIs, cIsN, isNonN, isNonS, isNonL, isNonR, isNonT, isNonB, isNon0, inS, ninS, tN, tB, tL, tT, tR, t0, bLenL, bLenT, bLenR, bLenS, bIntN, bMin, bMax, bSum, bLstL, bLstT, bTupL, bTupT, ixL, ixT, ixR, ixS, isiN, isiR, flatN, flatR, mutN, mutR, itR, itL, itT, itS, cNilR, cNilN, cNilL, cNilM, meTyJ, inR, ninR, flat0, flatB, flatI, flatS, flatF, flatL, flatT, flatD, mut0, mutB, mutI, mutS, mutF, mutL, mutT, mutD, isi0, isiB, isiI, isiS, isiL, isiT, isiDc, muOk, muTyR, muTyL, muAR, muAL, rMul, setR, bAbs]
/-- the text of the values where the bit j is v -/
def loT (n : Nat) (b : Nat → Bool) (j v : Nat) : List Nat := ((List.range (2 ^ n)).filter fun p => decide (p / 2 ^ j % 2 = v)).map fun p => ch (b p)
theorem f34_ok (j v : Nat) (hj : j < n) (h : 2 ≤ k) : (fnEval G k 34 [.sh (fD n b), .sh (nD j), .sh (nD v)]).res = .ok (.tup [nD (n - 1), .str (loT n b j v)]) false := by
  obtain ⟨k, rfl⟩ : ∃ j, k = j + 1 := ⟨k - 1, by omega⟩
  rw [fn_at k [.sh (fD n b), .sh (nD j), .sh (nD v)] [.sh (fD n b), .sh (nD j), .sh (nD v), .no] (show G.fns[34]? = some f34 from rfl) rfl rfl]
  have p2 := p2le hn
  have cc : (evR G (fnEval G k) F34c0).f [.sh (fD n b), .sh (nD j), .sh (nD v), .no] = .ok (.lst (((List.range (2 ^ n)).filter fun p => decide (p / 2 ^ j % 2 = v)).map fun p => .str [ch (b p)]), true) [.sh (fD n b), .sh (nD j), .sh (nD v), .no] := by
    refine comp_det (List.range (2 ^ n)) nD (fun p => decide (p / 2 ^ j % 2 = v)) (fun p => .str [ch (b p)]) (rngF hn b _ _ rfl) (by simp; omega) (fun p hp => ?_) (fun p hp _ => ⟨false, ?_⟩)
    · have w := bit k p j (by omega)
      simp [w, exR, evR, lineOk, sizeLine_eq, ofX, ofF, noR, R.out, R.bind, R.of, with1, with2, withs, Bor.res, Bor.frz, ress, frzs, bl2, dat, Sl.get?, Sl.frz, mkSl, Out.res, Res.put, mkArgs, ioAt, doCall, putIos, nd0, nd1, ndl, ndc, nAdd, nSub, nMul, nDiv, nMod, nShl, nShr, nAnd, nXor, nPow, sAdd, lAdd, rAdd, tAdd, lMul, sMul, cEqN, cEqS, cEqB, cNeN, cNeS, cNeB, cLt, cLe, cGt, cGe, cIs, cIsN, isNonN, isNonS, isNonL, isNonR, isNonT, isNonB, isNon0, inS, ninS, tN, tB, tL, tT, tR, t0, bLenL, bLenT, bLenR, bLenS, bIntN, bMin, bMax, bSum, bLstL, bLstT, bTupL, bTupT, ixL, ixT, ixR, ixS, isiN, isiR, flatN, flatR, mutN, mutR, itR, itL, itT, itS, cNilR, cNilN, cNilL, cNilM, meTyJ, inR, ninR, flat0, flatB, flatI, flatS, flatF, flatL, flatT, flatD, mut0, mutB, mutI, mutS, mutF, mutL, mutT, mutD, isi0, isiB, isiI, isiS, isiL, isiT, isiDc, muOk, muTyR, muTyL, muAR, muAL, rMul, setR, bAbs]
    · have i := ixTx b hn (show p < 2 ^ n by simpa using hp)
      simp [i, ixF1, exR, evR, lineOk, sizeLine_eq, ofX, ofF, noR, R.out, R.bind, R.of, with1, with2, withs, Bor.res, Bor.frz, ress, frzs, bl2, dat, Sl.get?, Sl.frz, mkSl, Out.res, Res.put, mkArgs, ioAt, doCall, putIos, nd0, nd1, ndl, ndc, nAdd, nSub, nMul, nDiv, nMod, nShl, nShr, nAnd, nXor, nPow, sAdd, lAdd, rAdd, tAdd, lMul, sMul, cEqN, cEqS, cEqB, cNeN, cNeS, cNeB, cLt, cLe, cGt, cGe, cIs, cIsN, isNonN, isNonS, isNonL, isNonR, isNonT, isNonB, isNon0, inS, ninS, tN, tB, tL, tT, tR, t0, bLenL, bLenT, bLenR, bLenS, bIntN, bMin, bMax, bSum, bLstL, bLstT, bTupL, bTupT, ixL, ixT, ixR, ixS, isiN, isiR, flatN, flatR, mutN, mutR, itR, itL, itT, itS, cNilR, cNilN, cNilL, cNilM, meTyJ, inR, ninR, flat0, flatB, flatI, flatS, flatF, flatL, flatT, flatD, mut0, mutB, mutI, mutS, mutF, mutL, mutT, mutD, isi0, isiB, isiI, isiS, isiL, isiT, isiDc, muOk, muTyR, muTyL, muAR, muAL, rMul, setR, bAbs]
  have jm := join_map ((List.range (2 ^ n)).filter fun p => decide (p / 2 ^ j % 2 = v)) (fun p => ch (b p)) (Nat.le_trans (List.length_filter_le _ _) (by simp; omega))
  have s := nSub (a := n) (b := 1) (by omega)
  unfold loT
  generalize ((List.range (2 ^ n)).filter fun p => decide (p / 2 ^ j % 2 = v)) = l at cc jm ⊢
  simp [cc, jm, s, ixF0, exR, evR, lineOk, sizeLine_eq, ofX, ofF, noR, R.out, R.bind, R.of, with1, with2, withs, Bor.res, Bor.frz, ress, frzs, bl2, dat, Sl.get?, Sl.frz, mkSl, Out.res, Res.put, mkArgs, ioAt, doCall, putIos, nd0, nd1, ndl, ndc, nAdd, nSub, nMul, nDiv, nMod, nShl, nShr, nAnd, nXor, nPow, sAdd, lAdd, rAdd, tAdd, lMul, sMul, cEqN, cEqS, cEqB, cNeN, cNeS, cNeB, cLt, cLe, cGt, cGe, cIs, cIsN, isNonN, isNonS, isNonL, isNonR, isNonT, isNonB, isNon0, inS, ninS, tN, tB, tL, tT, tR, t0, bLenL, bLenT, bLenR, bLenS, bIntN, bMin, bMax, bSum, bLstL, bLstT, bTupL, bTupT, ixL, ixT, ixR, ixS, isiN, isiR, flatN, flatR, mutN, mutR, itR, itL, itT, itS, cNilR, cNilN, cNilL, cNilM, meTyJ, inR, ninR, flat0, flatB, flatI, flatS, flatF, flatL, flatT, flatD, mut0, mutB, mutI, mutS, mutF, mutL, mutT, mutD, isi0, isiB, isiI, isiS, isiL, isiT, isiDc, muOk, muTyR, muTyL, muAR, muAL, rMul, setR, bAbs]
theorem f35_ok (j v : Nat) (hj : j < n) (hv : v ≤ 1) (h : 4 ≤ k) : (fnEval G k 35 [.sh (fD n b), .sh (nD j), .sh (nD v)]).res = .ok (.tup [nD (n - 1), .str (loT n b j v)]) false := by
  obtain ⟨k, rfl⟩ : ∃ j, k = j + 1 := ⟨k - 1, by omega⟩
  rw [fn_at k [.sh (fD n b), .sh (nD j), .sh (nD v)] [.sh (fD n b), .sh (nD j), .sh (nD v)] (show G.fns[35]? = some f35 from rfl) rfl rfl]
  have c1 := chkf k n b hn (by omega)
  have c2 := f10_ok k hn b j hj (by omega)
  have c3 := f11_ok k v hv (by omega)
  have c4 := f34_ok k hn b j v hj (by omega)
  simp [c1, c2, c3, c4, exR, evR, lineOk, sizeLine_eq, ofX, ofF, noR, R.out, R.bind, R.of, with1, with2, withs, Bor.res, Bor.frz, ress, frzs, bl2, dat, Sl.get?, Sl.frz, mkSl, Out.res, Res.put, mkArgs, ioAt, doCall, putIos, nd0, nd1, ndl, ndc, nAdd, nSub, nMul, nDiv, nMod, nShl, nShr, nAnd, nXor, nPow, sAdd, lAdd, rAdd, tAdd, lMul, sMul, cEqN, cEqS, cEqB, cNeN, cNeS, cNeB, cLt, cLe, cGt, cGe, cIs, cIsN, isNonN, isNonS, isNonL, isNonR, isNonT, isNonB, isNon0, inS, ninS, tN, tB, tL, tT, tR, t0, bLenL, bLenT, bLenR, bLenS, bIntN, bMin, bMax, bSum, bLstL, bLstT, bTupL, bTupT, ixL, ixT, ixR, ixS, isiN, isiR, flatN, flatR, mutN, mutR, itR, itL, itT, itS, cNilR, cNilN, cNilL, cNilM, meTyJ, inR, ninR, flat0, flatB, flatI, flatS, flatF, flatL, flatT, flatD, mut0, mutB, mutI, mutS, mutF, mutL, mutT, mutD, isi0, isiB, isiI, isiS, isiL, isiT, isiDc, muOk, muTyR, muTyL, muAR, muAL, rMul, setR, bAbs]
theorem f36_ok (j : Nat) (hj : j < n) (h : 4 ≤ k) : (fnEval G k 36 [.sh (fD n b), .sh (nD j)]).res = .ok (fD n fun p => b (setb p j 0) || b (setb p j 1)) false := by
  obtain ⟨k, rfl⟩ : ∃ j, k = j + 1 := ⟨k - 1, by omega⟩
  rw [fn_at k [.sh (fD n b), .sh (nD j)] [.sh (fD n b), .sh (nD j)] (show G.fns[36]? = some f36 from rfl) rfl rfl]
  have c1 := chkf k n b hn (by omega)
  have c2 := f10_ok k hn b j hj (by omega)
  have c3 := f32_ok k hn b j 0 hj (by omega) (by omega)
  have c4 := f32_ok k hn b j 1 hj (by omega) (by omega)
  have c5 := f23_ok k hn (fun p => b (setb p j 0)) (fun p => b (setb p j 1)) (by omega)
  generalize fD n (fun p => b (setb p j 0) || b (setb p j 1)) = r at c5 ⊢
  generalize fD n (fun p => b (setb p j 0)) = r0 at c3 c5 ⊢
  generalize fD n (fun p => b (setb p j 1)) = r1 at c4 c5 ⊢
  simp [c1, c2, c3, c4, c5, exR, evR, lineOk, sizeLine_eq, ofX, ofF, noR, R.out, R.bind, R.of, with1, with2, withs, Bor.res, Bor.frz, ress, frzs, bl2, dat, Sl.get?, Sl.frz, mkSl, Out.res, Res.put, mkArgs, ioAt, doCall, putIos, nd0, nd1, ndl, ndc, nAdd, nSub, nMul, nDiv, nMod, nShl, nShr, nAnd, nXor, nPow, sAdd, lAdd, rAdd, tAdd, lMul, sMul, cEqN, cEqS, cEqB, cNeN, cNeS, cNeB, cLt, cLe, cGt, cGe, cIs, cIsN, isNonN, isNonS, isNonL, isNonR, isNonT, isNonB, isNon0, inS, ninS, tN, tB, tL, tT, tR, t0, bLenL, bLenT, bLenR, bLenS, bIntN, bMin, bMax, bSum, bLstL, bLstT, bTupL, bTupT, ixL, ixT, ixR, ixS, isiN, isiR, flatN, flatR, mutN, mutR, itR, itL, itT, itS, cNilR, cNilN, cNilL, cNilM, meTyJ, inR, ninR, flat0, flatB, flatI, flatS, flatF, flatL, flatT, flatD, mut0, mutB, mutI, mutS, mutF, mutL, mutT, mutD, isi0, isiB, isiI, isiS, isiL, isiT, isiDc, muOk, muTyR, muTyL, muAR, muAL, rMul, setR, bAbs]
theorem f37_ok (j : Nat) (hj : j < n) (h : 4 ≤ k) : (fnEval G k 37 [.sh (fD n b), .sh (nD j)]).res = .ok (fD n fun p => b (setb p j 0) && b (setb p j 1)) false := by
  obtain ⟨k, rfl⟩ : ∃ j, k = j + 1 := ⟨k - 1, by omega⟩
  rw [fn_at k [.sh (fD n b), .sh (nD j)] [.sh (fD n b), .sh (nD j)] (show G.fns[37]? = some f37 from rfl) rfl rfl]
  have c1 := chkf k n b hn (by omega)
  have c2 := f10_ok k hn b j hj (by omega)
  have c3 := f32_ok k hn b j 0 hj (by omega) (by omega)
  have c4 := f32_ok k hn b j 1 hj (by omega) (by omega)
  have c5 := f21_ok k hn (fun p => b (setb p j 0)) (fun p => b (setb p j 1)) (by omega)
  generalize fD n (fun p => b (setb p j 0) && b (setb p j 1)) = r at c5 ⊢
  generalize fD n (fun p => b (setb p j 0)) = r0 at c3 c5 ⊢
  generalize fD n (fun p => b (setb p j 1)) = r1 at c4 c5 ⊢
  simp [c1, c2, c3, c4, c5, exR, evR, lineOk, sizeLine_eq, ofX, ofF, noR, R.out, R.bind, R.of, with1, with2, withs, Bor.res, Bor.frz, ress, frzs, bl2, dat, Sl.get?, Sl.frz, mkSl, Out.res, Res.put, mkArgs, ioAt, doCall, putIos, nd0, nd1, ndl, ndc, nAdd, nSub, nMul, nDiv, nMod, nShl, nShr, nAnd, nXor, nPow, sAdd, lAdd, rAdd, tAdd, lMul, sMul, cEqN, cEqS, cEqB, cNeN, cNeS, cNeB, cLt, cLe, cGt, cGe, cIs, cIsN, isNonN, isNonS, isNonL, isNonR, isNonT, isNonB, isNon0, inS, ninS, tN, tB, tL, tT, tR, t0, bLenL, bLenT, bLenR, bLenS, bIntN, bMin, bMax, bSum, bLstL, bLstT, bTupL, bTupT, ixL, ixT, ixR, ixS, isiN, isiR, flatN, flatR, mutN, mutR, itR, itL, itT, itS, cNilR, cNilN, cNilL, cNilM, meTyJ, inR, ninR, flat0, flatB, flatI, flatS, flatF, flatL, flatT, flatD, mut0, mutB, mutI, mutS, mutF, mutL, mutT, mutD, isi0, isiB, isiI, isiS, isiL, isiT, isiDc, muOk, muTyR, muTyL, muAR, muAL, rMul, setR, bAbs]
theorem f38_ok (j : Nat) (hj : j < n) (h : 4 ≤ k) : (fnEval G k 38 [.sh (fD n b), .sh (nD j)]).res = .ok (fD n fun p => b (setb p j 0) != b (setb p j 1)) false := by
  obtain ⟨k, rfl⟩ : ∃ j, k = j + 1 := ⟨k - 1, by omega⟩
  rw [fn_at k [.sh (fD n b), .sh (nD j)] [.sh (fD n b), .sh (nD j)] (show G.fns[38]? = some f38 from rfl) rfl rfl]
  have c1 := chkf k n b hn (by omega)
  have c2 := f10_ok k hn b j hj (by omega)
  have c3 := f32_ok k hn b j 0 hj (by omega) (by omega)
  have c4 := f32_ok k hn b j 1 hj (by omega) (by omega)
  have c5 := f25_ok k hn (fun p => b (setb p j 0)) (fun p => b (setb p j 1)) (by omega)
  generalize fD n (fun p => b (setb p j 0) != b (setb p j 1)) = r at c5 ⊢
  generalize fD n (fun p => b (setb p j 0)) = r0 at c3 c5 ⊢
  generalize fD n (fun p => b (setb p j 1)) = r1 at c4 c5 ⊢
  simp [c1, c2, c3, c4, c5, exR, evR, lineOk, sizeLine_eq, ofX, ofF, noR, R.out, R.bind, R.of, with1, with2, withs, Bor.res, Bor.frz, ress, frzs, bl2, dat, Sl.get?, Sl.frz, mkSl, Out.res, Res.put, mkArgs, ioAt, doCall, putIos, nd0, nd1, ndl, ndc, nAdd, nSub, nMul, nDiv, nMod, nShl, nShr, nAnd, nXor, nPow, sAdd, lAdd, rAdd, tAdd, lMul, sMul, cEqN, cEqS, cEqB, cNeN, cNeS, cNeB, cLt, cLe, cGt, cGe, cIs, cIsN, isNonN, isNonS, isNonL, isNonR, isNonT, isNonB, isNon0, inS, ninS, tN, tB, tL, tT, tR, t0, bLenL, bLenT, bLenR, bLenS, bIntN, bMin, bMax, bSum, bLstL, bLstT, bTupL, bTupT, ixL, ixT, ixR, ixS, isiN, isiR, flatN, flatR, mutN, mutR, itR, itL, itT, itS, cNilR, cNilN, cNilL, cNilM, meTyJ, inR, ninR, flat0, flatB, flatI, flatS, flatF, flatL, flatT, flatD, mut0, mutB, mutI, mutS, mutF, mutL, mutT, mutD, isi0, isiB, isiI, isiS, isiL, isiT, isiDc, muOk, muTyR, muTyL, muAR, muAL, rMul, setR, bAbs]
end
end K00
namespace K00
open PySem EV
theorem filt_false {α : Type} (l : List α) : l.filter (fun _ => false) = [] := by simp
theorem rise_ok (k : Nat) (l : List Nat) (hi : Nat) (hl : l.length ≤ 100000) (hle : ∀ x ∈ l, x ≤ hi) (hr : l.Pairwise (· < ·)) (h : 2 ≤ k) : (fnEval G k 2 [.sh (rowsD l), .sh (nD 0), .sh (nD hi)]).res = .ok (.bl true) false := by
  obtain ⟨k, rfl⟩ : ∃ j, k = j + 1 := ⟨k - 1, by omega⟩
  rw [fn_at k [.sh (rowsD l), .sh (nD 0), .sh (nD hi)] [.sh (rowsD l), .sh (nD 0), .sh (nD hi), .no, .no] (show G.fns[2]? = some f2 from rfl) rfl rfl]
  have c0 : (evR G (fnEval G k) F2c0).f [.sh (rowsD l), .sh (nD 0), .sh (nD hi), .no, .no] = .ok (rowsD [], true) [.sh (rowsD l), .sh (nD 0), .sh (nD hi), .no, .no] := by
    have e := comp_det (G := G) (call := fnEval G k) (el := .var 3) (it := .var 0) (c := .not (.call 0 (.cons (.var 3) (.cons (.var 1) (.cons (.var 2) .nil))))) (v := 3) (s := "one") (e := [.sh (rowsD l), .sh (nD 0), .sh (nD hi), .no, .no]) (e1 := [.sh (rowsD l), .sh (nD 0), .sh (nD hi), .no, .no]) l nD (fun _ => false) nD rfl (by omega) (fun x hx => by
      have i := num k x 0 hi (by omega)
      have le := hle x hx
      simp [i, le, exR, evR, lineOk, sizeLine_eq, ofX, ofF, noR, R.out, R.bind, R.of, with1, with2, withs, Bor.res, Bor.frz, ress, frzs, bl2, dat, Sl.get?, Sl.frz, mkSl, Out.res, Res.put, mkArgs, ioAt, doCall, putIos, nd0, nd1, ndl, ndc, nAdd, nSub, nMul, nDiv, nMod, nShl, nShr, nAnd, nXor, nPow, sAdd, lAdd, rAdd, tAdd, lMul, sMul, cEqN, cEqS, cEqB, cNeN, cNeS, cNeB, cLt, cLe, cGt, cGe, cIs, cIsN, isNonN, isNonS, isNonL, isNonR, isNonT, isNonB, isNon0, inS, ninS, tN, tB, tL, tT, tR, t0, bLenL, bLenT, bLenR, bLenS, bIntN, bMin, bMax, bSum, bLstL, bLstT, bTupL, bTupT, ixL, ixT, ixR, ixS, isiN, isiR, flatN, flatR, mutN, mutR, itR, itL, itT, itS, cNilR, cNilN, cNilL, cNilM, meTyJ, inR, ninR, flat0, flatB, flatI, flatS, flatF, flatL, flatT, flatD, mut0, mutB, mutI, mutS, mutF, mutL, mutT, mutD, isi0, isiB, isiI, isiS, isiL, isiT, isiDc, muOk, muTyR, muTyL, muAR, muAL, rMul, setR, bAbs]) (fun w _ hw => by cases hw)
    rw [filt_false] at e
    exact e
  have c1 : (evR G (fnEval G k) F2c1).f [.sh (rowsD l), .sh (nD 0), .sh (nD hi), .no, .no] = .ok (rowsD [], true) [.sh (rowsD l), .sh (nD 0), .sh (nD hi), .no, .no] := by
    have e := comp_det (G := G) (call := fnEval G k) (el := .var 4) (it := .rng2 (.lit (.int 1)) (.bi .len (.cons (.var 0) .nil))) (c := .cmp .GtE (.ix (.var 0) (.bin .Sub (.var 4) (.lit (.int 1)))) (.ix (.var 0) (.var 4))) (v := 4) (s := "k") (e := [.sh (rowsD l), .sh (nD 0), .sh (nD hi), .no, .no]) (e1 := [.sh (rowsD l), .sh (nD 0), .sh (nD hi), .no, .no]) (List.range (l.length - 1)) (fun j => nD (1 + j)) (fun _ => false) (fun j => nD (1 + j)) (rng2_i (fr := false) (fr2 := false) (m := 1) (n := l.length) (e1 := [.sh (rowsD l), .sh (nD 0), .sh (nD hi), .no, .no]) rfl (by simp [exR, evR, lineOk, sizeLine_eq, ofX, ofF, noR, R.out, R.bind, R.of, with1, with2, withs, Bor.res, Bor.frz, ress, frzs, bl2, dat, Sl.get?, Sl.frz, mkSl, Out.res, Res.put, mkArgs, ioAt, doCall, putIos, nd0, nd1, ndl, ndc, nAdd, nSub, nMul, nDiv, nMod, nShl, nShr, nAnd, nXor, nPow, sAdd, lAdd, rAdd, tAdd, lMul, sMul, cEqN, cEqS, cEqB, cNeN, cNeS, cNeB, cLt, cLe, cGt, cGe, cIs, cIsN, isNonN, isNonS, isNonL, isNonR, isNonT, isNonB, isNon0, inS, ninS, tN, tB, tL, tT, tR, t0, bLenL, bLenT, bLenR, bLenS, bIntN, bMin, bMax, bSum, bLstL, bLstT, bTupL, bTupT, ixL, ixT, ixR, ixS, isiN, isiR, flatN, flatR, mutN, mutR, itR, itL, itT, itS, cNilR, cNilN, cNilL, cNilM, meTyJ, inR, ninR, flat0, flatB, flatI, flatS, flatF, flatL, flatT, flatD, mut0, mutB, mutI, mutS, mutF, mutL, mutT, mutD, isi0, isiB, isiI, isiS, isiL, isiT, isiDc, muOk, muTyR, muTyL, muAR, muAL, rMul, setR, bAbs]) (by omega) (by omega)) (by simp; omega) (fun j hj => by
      have hj : j < l.length - 1 := by simpa using hj
      have s := nSub (a := 1 + j) (b := 1) (by omega)
      rw [show 1 + j - 1 = j by omega] at s
      have i1 := ixR (l := l) (j := j) (by omega)
      have i2 := ixR (l := l) (j := 1 + j) (by omega)
      have lt : l.getD j 0 < l.getD (1 + j) 0 := by
        rw [List.getD_eq_getElem?_getD, List.getD_eq_getElem?_getD, List.getElem?_eq_getElem (by omega), List.getElem?_eq_getElem (by omega)]
        exact List.pairwise_iff_getElem.mp hr j (1 + j) (by omega) (by omega) (by omega)
      generalize l.getD j 0 = x at i1 lt ⊢
      generalize l.getD (1 + j) 0 = y at i2 lt ⊢
      have nle : ¬ y ≤ x := by omega
      simp [s, i1, i2, nle, exR, evR, lineOk, sizeLine_eq, ofX, ofF, noR, R.out, R.bind, R.of, with1, with2, withs, Bor.res, Bor.frz, ress, frzs, bl2, dat, Sl.get?, Sl.frz, mkSl, Out.res, Res.put, mkArgs, ioAt, doCall, putIos, nd0, nd1, ndl, ndc, nAdd, nSub, nMul, nDiv, nMod, nShl, nShr, nAnd, nXor, nPow, sAdd, lAdd, rAdd, tAdd, lMul, sMul, cEqN, cEqS, cEqB, cNeN, cNeS, cNeB, cLt, cLe, cGt, cGe, cIs, cIsN, isNonN, isNonS, isNonL, isNonR, isNonT, isNonB, isNon0, inS, ninS, tN, tB, tL, tT, tR, t0, bLenL, bLenT, bLenR, bLenS, bIntN, bMin, bMax, bSum, bLstL, bLstT, bTupL, bTupT, ixL, ixT, ixR, ixS, isiN, isiR, flatN, flatR, mutN, mutR, itR, itL, itT, itS, cNilR, cNilN, cNilL, cNilM, meTyJ, inR, ninR, flat0, flatB, flatI, flatS, flatF, flatL, flatT, flatD, mut0, mutB, mutI, mutS, mutF, mutL, mutT, mutD, isi0, isiB, isiI, isiS, isiL, isiT, isiDc, muOk, muTyR, muTyL, muAR, muAL, rMul, setR, bAbs]) (fun w _ hw => by cases hw)
    rw [filt_false] at e
    exact e
  simp [c0, c1, exR, evR, lineOk, sizeLine_eq, ofX, ofF, noR, R.out, R.bind, R.of, with1, with2, withs, Bor.res, Bor.frz, ress, frzs, bl2, dat, Sl.get?, Sl.frz, mkSl, Out.res, Res.put, mkArgs, ioAt, doCall, putIos, nd0, nd1, ndl, ndc, nAdd, nSub, nMul, nDiv, nMod, nShl, nShr, nAnd, nXor, nPow, sAdd, lAdd, rAdd, tAdd, lMul, sMul, cEqN, cEqS, cEqB, cNeN, cNeS, cNeB, cLt, cLe, cGt, cGe, cIs, cIsN, isNonN, isNonS, isNonL, isNonR, isNonT, isNonB, isNon0, inS, ninS, tN, tB, tL, tT, tR, t0, bLenL, bLenT, bLenR, bLenS, bIntN, bMin, bMax, bSum, bLstL, bLstT, bTupL, bTupT, ixL, ixT, ixR, ixS, isiN, isiR, flatN, flatR, mutN, mutR, itR, itL, itT, itS, cNilR, cNilN, cNilL, cNilM, meTyJ, inR, ninR, flat0, flatB, flatI, flatS, flatF, flatL, flatT, flatD, mut0, mutB, mutI, mutS, mutF, mutL, mutT, mutD, isi0, isiB, isiI, isiS, isiL, isiT, isiDc, muOk, muTyR, muTyL, muAR, muAL, rMul, setR, bAbs]
theorem f16_ok (k : Nat) {n : Nat} (hn : n ≤ 10) (l : List Nat) (hle : ∀ x ∈ l, x < 2 ^ n) (hr : l.Pairwise (· < ·)) (hl : l.length ≤ 100000) (h : 3 ≤ k) : (fnEval G k 16 [.sh (nD n), .sh (rowsD l)]).res = .ok (fD n fun p => decide (p ∈ l)) false := by
  obtain ⟨k, rfl⟩ : ∃ j, k = j + 1 := ⟨k - 1, by omega⟩
  rw [fn_at k [.sh (nD n), .sh (rowsD l)] [.sh (nD n), .sh (rowsD l), .no, .no] (show G.fns[16]? = some f16 from rfl) rfl rfl]
  have p2 := p2le hn
  have p1 : 0 < 2 ^ n := Nat.pow_pos (by decide)
  have c1 := chk k n 0 10 (by omega) (by omega) hn
  have t := two k n (by omega) (by omega)
  have s := nSub (a := 2 ^ n) (b := 1) (by omega)
  have ri := rise_ok k l (2 ^ n - 1) hl (fun x hx => by have := hle x hx; omega) hr (by omega)
  refine go_expr (Is _) (x := (.non, false)) (e1 := [.sh (nD n), .sh (rowsD l), .no, .no]) (by simp [c1, exR, evR, lineOk, sizeLine_eq, ofX, ofF, noR, R.out, R.bind, R.of, with1, with2, withs, Bor.res, Bor.frz, ress, frzs, bl2, dat, Sl.get?, Sl.frz, mkSl, Out.res, Res.put, mkArgs, ioAt, doCall, putIos, nd0, nd1, ndl, ndc, nAdd, nSub, nMul, nDiv, nMod, nShl, nShr, nAnd, nXor, nPow, sAdd, lAdd, rAdd, tAdd, lMul, sMul, cEqN, cEqS, cEqB, cNeN, cNeS, cNeB, cLt, cLe, cGt, cGe, cIs, cIsN, isNonN, isNonS, isNonL, isNonR, isNonT, isNonB, isNon0, inS, ninS, tN, tB, tL, tT, tR, t0, bLenL, bLenT, bLenR, bLenS, bIntN, bMin, bMax, bSum, bLstL, bLstT, bTupL, bTupT, ixL, ixT, ixR, ixS, isiN, isiR, flatN, flatR, mutN, mutR, itR, itL, itT, itS, cNilR, cNilN, cNilL, cNilM, meTyJ, inR, ninR, flat0, flatB, flatI, flatS, flatF, flatL, flatT, flatD, mut0, mutB, mutI, mutS, mutF, mutL, mutT, mutD, isi0, isiB, isiI, isiS, isiL, isiT, isiDc, muOk, muTyR, muTyL, muAR, muAL, rMul, setR, bAbs]) ?_
  refine go_ff (Is _) (e1 := [.sh (nD n), .sh (rowsD l), .no, .no]) (by
    generalize 2 ^ n = w at t s ri ⊢
    simp [t, s, ri, exR, evR, lineOk, sizeLine_eq, ofX, ofF, noR, R.out, R.bind, R.of, with1, with2, withs, Bor.res, Bor.frz, ress, frzs, bl2, dat, Sl.get?, Sl.frz, mkSl, Out.res, Res.put, mkArgs, ioAt, doCall, putIos, nd0, nd1, ndl, ndc, nAdd, nSub, nMul, nDiv, nMod, nShl, nShr, nAnd, nXor, nPow, sAdd, lAdd, rAdd, tAdd, lMul, sMul, cEqN, cEqS, cEqB, cNeN, cNeS, cNeB, cLt, cLe, cGt, cGe, cIs, cIsN, isNonN, isNonS, isNonL, isNonR, isNonT, isNonB, isNon0, inS, ninS, tN, tB, tL, tT, tR, t0, bLenL, bLenT, bLenR, bLenS, bIntN, bMin, bMax, bSum, bLstL, bLstT, bTupL, bTupT, ixL, ixT, ixR, ixS, isiN, isiR, flatN, flatR, mutN, mutR, itR, itL, itT, itS, cNilR, cNilN, cNilL, cNilM, meTyJ, inR, ninR, flat0, flatB, flatI, flatS, flatF, flatL, flatT, flatD, mut0, mutB, mutI, mutS, mutF, mutL, mutT, mutD, isi0, isiB, isiI, isiS, isiL, isiT, isiDc, muOk, muTyR, muTyL, muAR, muAL, rMul, setR, bAbs]) ?_
  have nd : l.Nodup := hr.imp fun h => Nat.ne_of_lt h
  refine go_asg (Is _) (dcomp_new (v := 3) (s := "p") l nd (fun _ => .bl true) (by omega) rfl (fun a _ => ⟨false, rfl⟩) (fun a _ => ⟨false, rfl⟩)) rfl ?_
  show Is _ ((exR G (fnEval G k) [] _).x [.sh (nD n), .sh (rowsD l), .ow (.dct (l.map nD) (l.map fun _ => .bl true)), .no])
  generalize l.map (fun _ => D.bl true) = ws
  have cc : (evR G (fnEval G k) F16c1).f [.sh (nD n), .sh (rowsD l), .ow (.dct (l.map nD) ws), .no] = .ok (.lst ((List.range (2 ^ n)).map fun p => .bl (decide (p ∈ l))), true) [.sh (nD n), .sh (rowsD l), .ow (.dct (l.map nD) ws), .no] := by
    refine comp_all (List.range (2 ^ n)) nD (fun p => .bl (decide (p ∈ l))) (rng1_i (fr := false) (by
      generalize 2 ^ n = w at t ⊢
      simp [t, exR, evR, lineOk, sizeLine_eq, ofX, ofF, noR, R.out, R.bind, R.of, with1, with2, withs, Bor.res, Bor.frz, ress, frzs, bl2, dat, Sl.get?, Sl.frz, mkSl, Out.res, Res.put, mkArgs, ioAt, doCall, putIos, nd0, nd1, ndl, ndc, nAdd, nSub, nMul, nDiv, nMod, nShl, nShr, nAnd, nXor, nPow, sAdd, lAdd, rAdd, tAdd, lMul, sMul, cEqN, cEqS, cEqB, cNeN, cNeS, cNeB, cLt, cLe, cGt, cGe, cIs, cIsN, isNonN, isNonS, isNonL, isNonR, isNonT, isNonB, isNon0, inS, ninS, tN, tB, tL, tT, tR, t0, bLenL, bLenT, bLenR, bLenS, bIntN, bMin, bMax, bSum, bLstL, bLstT, bTupL, bTupT, ixL, ixT, ixR, ixS, isiN, isiR, flatN, flatR, mutN, mutR, itR, itL, itT, itS, cNilR, cNilN, cNilL, cNilM, meTyJ, inR, ninR, flat0, flatB, flatI, flatS, flatF, flatL, flatT, flatD, mut0, mutB, mutI, mutS, mutF, mutL, mutT, mutD, isi0, isiB, isiI, isiS, isiL, isiT, isiDc, muOk, muTyR, muTyL, muAR, muAL, rMul, setR, bAbs]) (by omega)) (by simp; omega) (fun p hp => ⟨false, ?_⟩)
    have i := inDct p l ws
    simp [i, exR, evR, lineOk, sizeLine_eq, ofX, ofF, noR, R.out, R.bind, R.of, with1, with2, withs, Bor.res, Bor.frz, ress, frzs, bl2, dat, Sl.get?, Sl.frz, mkSl, Out.res, Res.put, mkArgs, ioAt, doCall, putIos, nd0, nd1, ndl, ndc, nAdd, nSub, nMul, nDiv, nMod, nShl, nShr, nAnd, nXor, nPow, sAdd, lAdd, rAdd, tAdd, lMul, sMul, cEqN, cEqS, cEqB, cNeN, cNeS, cNeB, cLt, cLe, cGt, cGe, cIs, cIsN, isNonN, isNonS, isNonL, isNonR, isNonT, isNonB, isNon0, inS, ninS, tN, tB, tL, tT, tR, t0, bLenL, bLenT, bLenR, bLenS, bIntN, bMin, bMax, bSum, bLstL, bLstT, bTupL, bTupT, ixL, ixT, ixR, ixS, isiN, isiR, flatN, flatR, mutN, mutR, itR, itL, itT, itS, cNilR, cNilN, cNilL, cNilM, meTyJ, inR, ninR, flat0, flatB, flatI, flatS, flatF, flatL, flatT, flatD, mut0, mutB, mutI, mutS, mutF, mutL, mutT, mutD, isi0, isiB, isiI, isiS, isiL, isiT, isiDc, muOk, muTyR, muTyL, muAR, muAL, rMul, setR, bAbs]
  have o := of k n (fun p => .bl (decide (p ∈ l))) (fun p => decide (p ∈ l)) hn (fun p _ => rfl) (by omega)
  generalize fD n (fun p => decide (p ∈ l)) = r at o ⊢
  generalize ((List.range (2 ^ n)).map fun p => D.bl (decide (p ∈ l))) = vs at cc o
  simp [cc, o, exR, evR, lineOk, sizeLine_eq, ofX, ofF, noR, R.out, R.bind, R.of, with1, with2, withs, Bor.res, Bor.frz, ress, frzs, bl2, dat, Sl.get?, Sl.frz, mkSl, Out.res, Res.put, mkArgs, ioAt, doCall, putIos, nd0, nd1, ndl, ndc, nAdd, nSub, nMul, nDiv, nMod, nShl, nShr, nAnd, nXor, nPow, sAdd, lAdd, rAdd, tAdd, lMul, sMul, cEqN, cEqS, cEqB, cNeN, cNeS, cNeB, cLt, cLe, cGt, cGe, cIs, cIsN, isNonN, isNonS, isNonL, isNonR, isNonT, isNonB, isNon0, inS, ninS, tN, tB, tL, tT, tR, t0, bLenL, bLenT, bLenR, bLenS, bIntN, bMin, bMax, bSum, bLstL, bLstT, bTupL, bTupT, ixL, ixT, ixR, ixS, isiN, isiR, flatN, flatR, mutN, mutR, itR, itL, itT, itS, cNilR, cNilN, cNilL, cNilM, meTyJ, inR, ninR, flat0, flatB, flatI, flatS, flatF, flatL, flatT, flatD, mut0, mutB, mutI, mutS, mutF, mutL, mutT, mutD, isi0, isiB, isiI, isiS, isiL, isiT, isiDc, muOk, muTyR, muTyL, muAR, muAL, rMul, setR, bAbs]
  rfl
theorem tx_const (n : Nat) (x : Bool) : (List.replicate (2 ^ n) [ch x]).flatten = tx n fun _ => x := by
  unfold tx
  rw [List.map_const', List.length_range]
  generalize 2 ^ n = w
  induction w with
  | zero => rfl
  | succ w ih => rw [List.replicate_succ, List.replicate_succ, List.flatten_cons, ih]; rfl
theorem f17_ok (k : Nat) {n : Nat} (hn : n ≤ 10) (x : Bool) (h : 4 ≤ k) : (fnEval G k 17 [.sh (nD n), .sh (nD (if x = true then 1 else 0))]).res = .ok (fD n fun _ => x) false := by
  obtain ⟨k, rfl⟩ : ∃ j, k = j + 1 := ⟨k - 1, by omega⟩
  rw [fn_at k [.sh (nD n), .sh (nD (if x = true then 1 else 0))] [.sh (nD n), .sh (nD (if x = true then 1 else 0))] (show G.fns[17]? = some f17 from rfl) rfl rfl]
  have p2 := p2le hn
  have c1 := chk k n 0 10 (by omega) (by omega) hn
  have c2 := f11_ok k (if x = true then 1 else 0) (by split <;> omega) (by omega)
  have t := two k n (by omega) (by omega)
  have s := str01 x
  have m := sMul (a := [ch x]) (n := 2 ^ n) (by simp; omega) (by omega)
  rw [tx_const] at m
  generalize (if x = true then 1 else 0) = v at c2 s ⊢
  have e0 : fD n (fun _ => x) = .tup [nD n, .str (tx n fun _ => x)] := rfl
  rw [e0]
  generalize tx n (fun _ => x) = r at m ⊢
  generalize 2 ^ n = w at t m
  simp [c1, c2, t, s, m, exR, evR, lineOk, sizeLine_eq, ofX, ofF, noR, R.out, R.bind, R.of, with1, with2, withs, Bor.res, Bor.frz, ress, frzs, bl2, dat, Sl.get?, Sl.frz, mkSl, Out.res, Res.put, mkArgs, ioAt, doCall, putIos, nd0, nd1, ndl, ndc, nAdd, nSub, nMul, nDiv, nMod, nShl, nShr, nAnd, nXor, nPow, sAdd, lAdd, rAdd, tAdd, lMul, sMul, cEqN, cEqS, cEqB, cNeN, cNeS, cNeB, cLt, cLe, cGt, cGe, cIs, cIsN, isNonN, isNonS, isNonL, isNonR, isNonT, isNonB, isNon0, inS, ninS, tN, tB, tL, tT, tR, t0, bLenL, bLenT, bLenR, bLenS, bIntN, bMin, bMax, bSum, bLstL, bLstT, bTupL, bTupT, ixL, ixT, ixR, ixS, isiN, isiR, flatN, flatR, mutN, mutR, itR, itL, itT, itS, cNilR, cNilN, cNilL, cNilM, meTyJ, inR, ninR, flat0, flatB, flatI, flatS, flatF, flatL, flatT, flatD, mut0, mutB, mutI, mutS, mutF, mutL, mutT, mutD, isi0, isiB, isiI, isiS, isiL, isiT, isiDc, muOk, muTyR, muTyL, muAR, muAL, rMul, setR, bAbs]
theorem f18_ok (k : Nat) {n : Nat} (hn : n ≤ 10) (j : Nat) (hj : j < n) (h : 3 ≤ k) : (fnEval G k 18 [.sh (nD n), .sh (nD j)]).res = .ok (fD n fun p => decide (p / 2 ^ j % 2 = 1)) false := by
  obtain ⟨k, rfl⟩ : ∃ j, k = j + 1 := ⟨k - 1, by omega⟩
  rw [fn_at k [.sh (nD n), .sh (nD j)] [.sh (nD n), .sh (nD j), .no] (show G.fns[18]? = some f18 from rfl) rfl rfl]
  have p2 := p2le hn
  have c1 := chk k n 0 10 (by omega) (by omega) hn
  have c2 := chk k j 0 (n - 1) (by omega) (by omega) (by omega)
  have s := nSub (a := n) (b := 1) (by omega)
  have t := two k n (by omega) (by omega)
  have cc : (evR G (fnEval G k) F18c0).f [.sh (nD n), .sh (nD j), .no] = .ok (.lst ((List.range (2 ^ n)).map fun p => nD (p / 2 ^ j % 2)), true) [.sh (nD n), .sh (nD j), .no] := by
    refine comp_all (List.range (2 ^ n)) nD (fun p => nD (p / 2 ^ j % 2)) (rng1_i (fr := false) (by
      generalize 2 ^ n = w at t ⊢
      simp [t, exR, evR, lineOk, sizeLine_eq, ofX, ofF, noR, R.out, R.bind, R.of, with1, with2, withs, Bor.res, Bor.frz, ress, frzs, bl2, dat, Sl.get?, Sl.frz, mkSl, Out.res, Res.put, mkArgs, ioAt, doCall, putIos, nd0, nd1, ndl, ndc, nAdd, nSub, nMul, nDiv, nMod, nShl, nShr, nAnd, nXor, nPow, sAdd, lAdd, rAdd, tAdd, lMul, sMul, cEqN, cEqS, cEqB, cNeN, cNeS, cNeB, cLt, cLe, cGt, cGe, cIs, cIsN, isNonN, isNonS, isNonL, isNonR, isNonT, isNonB, isNon0, inS, ninS, tN, tB, tL, tT, tR, t0, bLenL, bLenT, bLenR, bLenS, bIntN, bMin, bMax, bSum, bLstL, bLstT, bTupL, bTupT, ixL, ixT, ixR, ixS, isiN, isiR, flatN, flatR, mutN, mutR, itR, itL, itT, itS, cNilR, cNilN, cNilL, cNilM, meTyJ, inR, ninR, flat0, flatB, flatI, flatS, flatF, flatL, flatT, flatD, mut0, mutB, mutI, mutS, mutF, mutL, mutT, mutD, isi0, isiB, isiI, isiS, isiL, isiT, isiDc, muOk, muTyR, muTyL, muAR, muAL, rMul, setR, bAbs]) (by omega)) (by simp; omega) (fun p hp => ⟨false, ?_⟩)
    have b := bit k p j (by omega)
    simp [b, exR, evR, lineOk, sizeLine_eq, ofX, ofF, noR, R.out, R.bind, R.of, with1, with2, withs, Bor.res, Bor.frz, ress, frzs, bl2, dat, Sl.get?, Sl.frz, mkSl, Out.res, Res.put, mkArgs, ioAt, doCall, putIos, nd0, nd1, ndl, ndc, nAdd, nSub, nMul, nDiv, nMod, nShl, nShr, nAnd, nXor, nPow, sAdd, lAdd, rAdd, tAdd, lMul, sMul, cEqN, cEqS, cEqB, cNeN, cNeS, cNeB, cLt, cLe, cGt, cGe, cIs, cIsN, isNonN, isNonS, isNonL, isNonR, isNonT, isNonB, isNon0, inS, ninS, tN, tB, tL, tT, tR, t0, bLenL, bLenT, bLenR, bLenS, bIntN, bMin, bMax, bSum, bLstL, bLstT, bTupL, bTupT, ixL, ixT, ixR, ixS, isiN, isiR, flatN, flatR, mutN, mutR, itR, itL, itT, itS, cNilR, cNilN, cNilL, cNilM, meTyJ, inR, ninR, flat0, flatB, flatI, flatS, flatF, flatL, flatT, flatD, mut0, mutB, mutI, mutS, mutF, mutL, mutT, mutD, isi0, isiB, isiI, isiS, isiL, isiT, isiDc, muOk, muTyR, muTyL, muAR, muAL, rMul, setR, bAbs]
  have o := of k n (fun p => nD (p / 2 ^ j % 2)) (fun p => decide (p / 2 ^ j % 2 = 1)) hn (fun p _ => by
    rw [tN]
    congr 1
    have : p / 2 ^ j % 2 = 0 ∨ p / 2 ^ j % 2 = 1 := by omega
    rcases this with e | e <;> rw [e] <;> rfl) (by omega)
  generalize fD n (fun p => decide (p / 2 ^ j % 2 = 1)) = r at o ⊢
  generalize ((List.range (2 ^ n)).map fun p => nD (p / 2 ^ j % 2)) = vs at cc o
  simp [c1, c2, s, cc, o, exR, evR, lineOk, sizeLine_eq, ofX, ofF, noR, R.out, R.bind, R.of, with1, with2, withs, Bor.res, Bor.frz, ress, frzs, bl2, dat, Sl.get?, Sl.frz, mkSl, Out.res, Res.put, mkArgs, ioAt, doCall, putIos, nd0, nd1, ndl, ndc, nAdd, nSub, nMul, nDiv, nMod, nShl, nShr, nAnd, nXor, nPow, sAdd, lAdd, rAdd, tAdd, lMul, sMul, cEqN, cEqS, cEqB, cNeN, cNeS, cNeB, cLt, cLe, cGt, cGe, cIs, cIsN, isNonN, isNonS, isNonL, isNonR, isNonT, isNonB, isNon0, inS, ninS, tN, tB, tL, tT, tR, t0, bLenL, bLenT, bLenR, bLenS, bIntN, bMin, bMax, bSum, bLstL, bLstT, bTupL, bTupT, ixL, ixT, ixR, ixS, isiN, isiR, flatN, flatR, mutN, mutR, itR, itL, itT, itS, cNilR, cNilN, cNilL, cNilM, meTyJ, inR, ninR, flat0, flatB, flatI, flatS, flatF, flatL, flatT, flatD, mut0, mutB, mutI, mutS, mutF, mutL, mutT, mutD, isi0, isiB, isiI, isiS, isiL, isiT, isiDc, muOk, muTyR, muTyL, muAR, muAL, rMul, setR, bAbs]
/-! variables put in, one after the other -/
def pD (ps : List (Nat × Nat)) : D := .lst (ps.map fun z => .tup [nD z.1, nD z.2])
structure OkP (n : Nat) (ps : List (Nat × Nat)) : Prop where
  lt : ∀ z ∈ ps, z.1 < n ∧ z.2 ≤ 1
  ri : (ps.map (·.1)).Pairwise (· < ·)
  le : ps.length ≤ 1000
def putA (b : Nat → Bool) (ps : List (Nat × Nat)) : Nat → Bool := ps.foldl (fun c z p => c (setb p z.1 z.2)) b
def putQ (p : Nat) (ps : List (Nat × Nat)) : Nat := ps.foldl (fun q z => setb q z.1 z.2) p
theorem putQ_lt {n : Nat} : ∀ {ps : List (Nat × Nat)} {p : Nat}, (∀ z ∈ ps, z.1 < n ∧ z.2 ≤ 1) → p < 2 ^ n → putQ p ps < 2 ^ n
  | [], p, _, hp => hp
  | z :: ps, p, h, hp => putQ_lt (ps := ps) (fun y hy => h y (List.mem_cons_of_mem _ hy)) (setb_lt hp (h z List.mem_cons_self).1 (h z List.mem_cons_self).2)
theorem putQ_comm (j w : Nat) (hw : w ≤ 1) : ∀ (ps : List (Nat × Nat)) (p : Nat), (∀ z ∈ ps, z.1 ≠ j ∧ z.2 ≤ 1) → putQ (setb p j w) ps = setb (putQ p ps) j w
  | [], p, _ => rfl
  | z :: ps, p, h => by
    obtain ⟨h1, h2⟩ := h z List.mem_cons_self
    show putQ (setb (setb p j w) z.1 z.2) ps = setb (putQ (setb p z.1 z.2) ps) j w
    rw [setb_comm p j w z.1 z.2 (Ne.symm h1) hw h2]
    exact putQ_comm j w hw ps _ fun y hy => h y (List.mem_cons_of_mem _ hy)
theorem putA_eq {n : Nat} : ∀ (ps : List (Nat × Nat)) (b : Nat → Bool) (p : Nat), OkP n ps → putA b ps p = b (putQ p ps)
  | [], b, p, _ => rfl
  | z :: ps, b, p, h => by
    have h2 : OkP n ps := ⟨fun y hy => h.lt y (List.mem_cons_of_mem _ hy), (List.pairwise_cons.mp h.ri).2, by have := h.le; simp at this; omega⟩
    show putA (fun p => b (setb p z.1 z.2)) ps p = b (putQ (setb p z.1 z.2) ps)
    rw [putA_eq ps _ p h2, putQ_comm z.1 z.2 (h.lt z List.mem_cons_self).2 ps p fun y hy => ?_]
    have : z.1 < y.1 := (List.pairwise_cons.mp h.ri).1 y.1 (List.mem_map.mpr ⟨y, hy, rfl⟩)
    exact ⟨by omega, (h2.lt y hy).2⟩
theorem f39_ok (k : Nat) {n : Nat} (hn : n ≤ 10) (b : Nat → Bool) (ps : List (Nat × Nat)) (hp : OkP n ps) (h : 4 ≤ k) : (fnEval G k 39 [.sh (fD n b), .sh (pD ps)]).res = .ok (fD n (putA b ps)) false := by
  obtain ⟨k, rfl⟩ : ∃ j, k = j + 1 := ⟨k - 1, by omega⟩
  rw [fn_at k [.sh (fD n b), .sh (pD ps)] [.sh (fD n b), .sh (pD ps), .no, .no, .no] (show G.fns[39]? = some f39 from rfl) rfl rfl]
  have le := hp.le
  have c1 := chkf k n b hn (by omega)
  have hc0 : (evR G (fnEval G k) F39c0).f [.sh (fD n b), .sh (pD ps), .no, .no, .no] = .ok (.lst [], true) [.sh (fD n b), .sh (pD ps), .no, .no, .no] := by
    have e := comp_det (G := G) (call := fnEval G k) (el := .var 4) (it := .var 1) (c := .or (.not (.isi (.var 4) .tuple)) (.cmp .NotEq (.bi .len (.cons (.var 4) .nil)) (.lit (.int 2)))) (v := 4) (s := "one") (e := [.sh (fD n b), .sh (pD ps), .no, .no, .no]) (e1 := [.sh (fD n b), .sh (pD ps), .no, .no, .no]) ps (fun z => .tup [nD z.1, nD z.2]) (fun _ => false) (fun z => .tup [nD z.1, nD z.2]) rfl (by omega) (fun z _ => by simp [exR, evR, lineOk, sizeLine_eq, ofX, ofF, noR, R.out, R.bind, R.of, with1, with2, withs, Bor.res, Bor.frz, ress, frzs, bl2, dat, Sl.get?, Sl.frz, mkSl, Out.res, Res.put, mkArgs, ioAt, doCall, putIos, nd0, nd1, ndl, ndc, nAdd, nSub, nMul, nDiv, nMod, nShl, nShr, nAnd, nXor, nPow, sAdd, lAdd, rAdd, tAdd, lMul, sMul, cEqN, cEqS, cEqB, cNeN, cNeS, cNeB, cLt, cLe, cGt, cGe, cIs, cIsN, isNonN, isNonS, isNonL, isNonR, isNonT, isNonB, isNon0, inS, ninS, tN, tB, tL, tT, tR, t0, bLenL, bLenT, bLenR, bLenS, bIntN, bMin, bMax, bSum, bLstL, bLstT, bTupL, bTupT, ixL, ixT, ixR, ixS, isiN, isiR, flatN, flatR, mutN, mutR, itR, itL, itT, itS, cNilR, cNilN, cNilL, cNilM, meTyJ, inR, ninR, flat0, flatB, flatI, flatS, flatF, flatL, flatT, flatD, mut0, mutB, mutI, mutS, mutF, mutL, mutT, mutD, isi0, isiB, isiI, isiS, isiL, isiT, isiDc, muOk, muTyR, muTyL, muAR, muAL, rMul, setR, bAbs]) (fun w _ hw => by cases hw)
    rw [filt_false] at e
    exact e
  have hc1 : (evR G (fnEval G k) F39c1).f [.sh (fD n b), .sh (pD ps), .no, .no, .no] = .ok (rowsD (ps.map (·.1)), true) [.sh (fD n b), .sh (pD ps), .no, .no, .no] := by
    have e := comp_pairs (G := G) (call := fnEval G k) (el := .var 2) (it := .var 1) (c := .nop) (v := 2) (w := 3) (s := "k") (t := "v") (e := [.sh (fD n b), .sh (pD ps), .no, .no, .no]) (e1 := [.sh (fD n b), .sh (pD ps), .no, .no, .no]) ps (fun z => nD z.1) (fun z => nD z.2) (fun _ => true) (fun z => nD z.1) (by decide) rfl (by omega) (fun z _ => rfl) (fun z _ _ => ⟨false, rfl⟩)
    have ht : ps.filter (fun _ => true) = ps := by simp
    rw [ht, rows_map] at e
    exact e
  have hc2 : (evR G (fnEval G k) F39c2).f [.sh (fD n b), .sh (pD ps), .no, .no, .no] = .ok (.lst [], true) [.sh (fD n b), .sh (pD ps), .no, .no, .no] := by
    have e := comp_pairs (G := G) (call := fnEval G k) (el := .var 3) (it := .var 1) (c := .not (.call 0 (.cons (.var 3) (.cons (.lit (.int 0)) (.cons (.lit (.int 1)) .nil))))) (v := 2) (w := 3) (s := "k") (t := "v") (e := [.sh (fD n b), .sh (pD ps), .no, .no, .no]) (e1 := [.sh (fD n b), .sh (pD ps), .no, .no, .no]) ps (fun z => nD z.1) (fun z => nD z.2) (fun _ => false) (fun z => nD z.2) (by decide) rfl (by omega) (fun z hz => by
      have i := num k z.2 0 1 (by omega)
      have l1 := (hp.lt z hz).2
      simp [i, l1, exR, evR, lineOk, sizeLine_eq, ofX, ofF, noR, R.out, R.bind, R.of, with1, with2, withs, Bor.res, Bor.frz, ress, frzs, bl2, dat, Sl.get?, Sl.frz, mkSl, Out.res, Res.put, mkArgs, ioAt, doCall, putIos, nd0, nd1, ndl, ndc, nAdd, nSub, nMul, nDiv, nMod, nShl, nShr, nAnd, nXor, nPow, sAdd, lAdd, rAdd, tAdd, lMul, sMul, cEqN, cEqS, cEqB, cNeN, cNeS, cNeB, cLt, cLe, cGt, cGe, cIs, cIsN, isNonN, isNonS, isNonL, isNonR, isNonT, isNonB, isNon0, inS, ninS, tN, tB, tL, tT, tR, t0, bLenL, bLenT, bLenR, bLenS, bIntN, bMin, bMax, bSum, bLstL, bLstT, bTupL, bTupT, ixL, ixT, ixR, ixS, isiN, isiR, flatN, flatR, mutN, mutR, itR, itL, itT, itS, cNilR, cNilN, cNilL, cNilM, meTyJ, inR, ninR, flat0, flatB, flatI, flatS, flatF, flatL, flatT, flatD, mut0, mutB, mutI, mutS, mutF, mutL, mutT, mutD, isi0, isiB, isiI, isiS, isiL, isiT, isiDc, muOk, muTyR, muTyL, muAR, muAL, rMul, setR, bAbs]) (fun z _ hw => by cases hw)
    rw [filt_false] at e
    exact e
  refine go_expr (Is _) (x := (.non, false)) (e1 := [.sh (fD n b), .sh (pD ps), .no, .no, .no]) (by simp [c1, exR, evR, lineOk, sizeLine_eq, ofX, ofF, noR, R.out, R.bind, R.of, with1, with2, withs, Bor.res, Bor.frz, ress, frzs, bl2, dat, Sl.get?, Sl.frz, mkSl, Out.res, Res.put, mkArgs, ioAt, doCall, putIos, nd0, nd1, ndl, ndc, nAdd, nSub, nMul, nDiv, nMod, nShl, nShr, nAnd, nXor, nPow, sAdd, lAdd, rAdd, tAdd, lMul, sMul, cEqN, cEqS, cEqB, cNeN, cNeS, cNeB, cLt, cLe, cGt, cGe, cIs, cIsN, isNonN, isNonS, isNonL, isNonR, isNonT, isNonB, isNon0, inS, ninS, tN, tB, tL, tT, tR, t0, bLenL, bLenT, bLenR, bLenS, bIntN, bMin, bMax, bSum, bLstL, bLstT, bTupL, bTupT, ixL, ixT, ixR, ixS, isiN, isiR, flatN, flatR, mutN, mutR, itR, itL, itT, itS, cNilR, cNilN, cNilL, cNilM, meTyJ, inR, ninR, flat0, flatB, flatI, flatS, flatF, flatL, flatT, flatD, mut0, mutB, mutI, mutS, mutF, mutL, mutT, mutD, isi0, isiB, isiI, isiS, isiL, isiT, isiDc, muOk, muTyR, muTyL, muAR, muAL, rMul, setR, bAbs]) ?_
  have isl : ∀ t, isiD (pD ps) t = some (decide (t = .list)) := fun t => by cases t <;> rfl
  refine go_ff (Is _) (e1 := [.sh (fD n b), .sh (pD ps), .no, .no, .no]) (by simp [hc0, isl, exR, evR, lineOk, sizeLine_eq, ofX, ofF, noR, R.out, R.bind, R.of, with1, with2, withs, Bor.res, Bor.frz, ress, frzs, bl2, dat, Sl.get?, Sl.frz, mkSl, Out.res, Res.put, mkArgs, ioAt, doCall, putIos, nd0, nd1, ndl, ndc, nAdd, nSub, nMul, nDiv, nMod, nShl, nShr, nAnd, nXor, nPow, sAdd, lAdd, rAdd, tAdd, lMul, sMul, cEqN, cEqS, cEqB, cNeN, cNeS, cNeB, cLt, cLe, cGt, cGe, cIs, cIsN, isNonN, isNonS, isNonL, isNonR, isNonT, isNonB, isNon0, inS, ninS, tN, tB, tL, tT, tR, t0, bLenL, bLenT, bLenR, bLenS, bIntN, bMin, bMax, bSum, bLstL, bLstT, bTupL, bTupT, ixL, ixT, ixR, ixS, isiN, isiR, flatN, flatR, mutN, mutR, itR, itL, itT, itS, cNilR, cNilN, cNilL, cNilM, meTyJ, inR, ninR, flat0, flatB, flatI, flatS, flatF, flatL, flatT, flatD, mut0, mutB, mutI, mutS, mutF, mutL, mutT, mutD, isi0, isiB, isiI, isiS, isiL, isiT, isiDc, muOk, muTyR, muTyL, muAR, muAL, rMul, setR, bAbs]) ?_
  have i0 := ixF0 n b
  refine go_ff (Is _) (e1 := [.sh (fD n b), .sh (pD ps), .no, .no, .no]) (by
    by_cases hz : n = 0
    · have : ps = [] := by
        cases ps with
        | nil => rfl
        | cons z ps =>
          have := (hp.lt z List.mem_cons_self).1
          omega
      subst hz this
      have sb : binD .Sub (nD 0) (nD 1) = some (.int (-1), false) := rfl
      have ri : (fnEval G k 2 [.sh (rowsD []), .sh (nD 0), .sh (.int (-1))]).res = .ok (.bl true) false := by
        obtain ⟨k, rfl⟩ : ∃ j, k = j + 1 := ⟨k - 1, by omega⟩
        rfl
      simp at hc1
      simp [hc1, hc2, sb, ri, i0, exR, evR, lineOk, sizeLine_eq, ofX, ofF, noR, R.out, R.bind, R.of, with1, with2, withs, Bor.res, Bor.frz, ress, frzs, bl2, dat, Sl.get?, Sl.frz, mkSl, Out.res, Res.put, mkArgs, ioAt, doCall, putIos, nd0, nd1, ndl, ndc, nAdd, nSub, nMul, nDiv, nMod, nShl, nShr, nAnd, nXor, nPow, sAdd, lAdd, rAdd, tAdd, lMul, sMul, cEqN, cEqS, cEqB, cNeN, cNeS, cNeB, cLt, cLe, cGt, cGe, cIs, cIsN, isNonN, isNonS, isNonL, isNonR, isNonT, isNonB, isNon0, inS, ninS, tN, tB, tL, tT, tR, t0, bLenL, bLenT, bLenR, bLenS, bIntN, bMin, bMax, bSum, bLstL, bLstT, bTupL, bTupT, ixL, ixT, ixR, ixS, isiN, isiR, flatN, flatR, mutN, mutR, itR, itL, itT, itS, cNilR, cNilN, cNilL, cNilM, meTyJ, inR, ninR, flat0, flatB, flatI, flatS, flatF, flatL, flatT, flatD, mut0, mutB, mutI, mutS, mutF, mutL, mutT, mutD, isi0, isiB, isiI, isiS, isiL, isiT, isiDc, muOk, muTyR, muTyL, muAR, muAL, rMul, setR, bAbs]
    · have ri := rise_ok k (ps.map (·.1)) (n - 1) (by simp; omega) (fun x hx => by
        obtain ⟨z, hz, rfl⟩ := List.mem_map.mp hx
        have := (hp.lt z hz).1
        omega) hp.ri (by omega)
      have sb := nSub (a := n) (b := 1) (by omega)
      simp [hc1, hc2, sb, ri, i0, exR, evR, lineOk, sizeLine_eq, ofX, ofF, noR, R.out, R.bind, R.of, with1, with2, withs, Bor.res, Bor.frz, ress, frzs, bl2, dat, Sl.get?, Sl.frz, mkSl, Out.res, Res.put, mkArgs, ioAt, doCall, putIos, nd0, nd1, ndl, ndc, nAdd, nSub, nMul, nDiv, nMod, nShl, nShr, nAnd, nXor, nPow, sAdd, lAdd, rAdd, tAdd, lMul, sMul, cEqN, cEqS, cEqB, cNeN, cNeS, cNeB, cLt, cLe, cGt, cGe, cIs, cIsN, isNonN, isNonS, isNonL, isNonR, isNonT, isNonB, isNon0, inS, ninS, tN, tB, tL, tT, tR, t0, bLenL, bLenT, bLenR, bLenS, bIntN, bMin, bMax, bSum, bLstL, bLstT, bTupL, bTupT, ixL, ixT, ixR, ixS, isiN, isiR, flatN, flatR, mutN, mutR, itR, itL, itT, itS, cNilR, cNilN, cNilL, cNilM, meTyJ, inR, ninR, flat0, flatB, flatI, flatS, flatF, flatL, flatT, flatD, mut0, mutB, mutI, mutS, mutF, mutL, mutT, mutD, isi0, isiB, isiI, isiS, isiL, isiT, isiDc, muOk, muTyR, muTyL, muAR, muAL, rMul, setR, bAbs]) ?_
  obtain ⟨e', k1, x, y, k2⟩ := for_thru (tg := .tp [2, 3]) (body := (exR G (fnEval G k) [] F39b0).x) (fun i e => ∃ x y, e = [.sh (fD n (putA b (ps.take i))), .sh (pD ps), x, y, .no]) (ps.map fun z => .tup [nD z.1, nD z.2]) 0 [.sh (fD n b), .sh (pD ps), .no, .no, .no] ⟨_, _, rfl⟩ fun j d e hj ⟨x, y, hx⟩ => by
    subst hx
    have hlt : j < ps.length := by
      have := (List.getElem?_eq_some_iff.mp hj).1
      simpa using this
    rw [List.getElem?_map, List.getElem?_eq_getElem hlt] at hj
    have hd : d = .tup [nD ps[j].1, nD ps[j].2] := by simpa using hj.symm
    subst hd
    rw [Nat.zero_add]
    have e1 : ps.take (j + 1) = ps.take j ++ [ps[j]] := by simp
    have hm := hp.lt ps[j] (List.getElem_mem hlt)
    have e2 : putA b (ps.take (j + 1)) = fun p => putA b (ps.take j) (setb p ps[j].1 ps[j].2) := by
      unfold putA
      rw [e1, List.foldl_append]
      rfl
    rw [e2]
    generalize putA b (ps.take j) = c
    generalize ps[j] = z at hm ⊢
    have w := f32_ok k hn c z.1 z.2 hm.1 hm.2 (by omega)
    have fl := flatFn n (fun p => c (setb p z.1 z.2))
    have mu := mutFn n (fun p => c (setb p z.1 z.2))
    refine ⟨[.sh (fD n c), .sh (pD ps), .sh (nD z.1), .sh (nD z.2), .no], [.sh (fD n fun p => c (setb p z.1 z.2)), .sh (pD ps), .sh (nD z.1), .sh (nD z.2), .no], rfl, .inl ?_, _, _, rfl⟩
    generalize fD n (fun p => c (setb p z.1 z.2)) = r at w fl mu ⊢
    unfold F39b0
    simp [w, fl, mu, exR, evR, lineOk, sizeLine_eq, ofX, ofF, noR, R.out, R.bind, R.of, with1, with2, withs, Bor.res, Bor.frz, ress, frzs, bl2, dat, Sl.get?, Sl.frz, mkSl, Out.res, Res.put, mkArgs, ioAt, doCall, putIos, nd0, nd1, ndl, ndc, nAdd, nSub, nMul, nDiv, nMod, nShl, nShr, nAnd, nXor, nPow, sAdd, lAdd, rAdd, tAdd, lMul, sMul, cEqN, cEqS, cEqB, cNeN, cNeS, cNeB, cLt, cLe, cGt, cGe, cIs, cIsN, isNonN, isNonS, isNonL, isNonR, isNonT, isNonB, isNon0, inS, ninS, tN, tB, tL, tT, tR, t0, bLenL, bLenT, bLenR, bLenS, bIntN, bMin, bMax, bSum, bLstL, bLstT, bTupL, bTupT, ixL, ixT, ixR, ixS, isiN, isiR, flatN, flatR, mutN, mutR, itR, itL, itT, itS, cNilR, cNilN, cNilL, cNilM, meTyJ, inR, ninR, flat0, flatB, flatI, flatS, flatF, flatL, flatT, flatD, mut0, mutB, mutI, mutS, mutF, mutL, mutT, mutD, isi0, isiB, isiI, isiS, isiL, isiT, isiDc, muOk, muTyR, muTyL, muAR, muAL, rMul, setR, bAbs]
  subst k2
  rw [List.length_map, Nat.zero_add, List.take_length] at k1
  refine go_nx (Is _) (e1 := [.sh (fD n (putA b ps)), .sh (pD ps), x, y, .no]) (by
    unfold F39l0
    exact for_nx rfl rfl k1) ?_
  show ((exR G (fnEval G k) [] (.seq (.ret (.var 0)) .skip)).x _).res = _
  rw [seq_rt (ret_sh (d := fD n (putA b ps)) rfl rfl)]
  rfl
end K00
namespace K00
open PySem EV
/-- the input that the rows tell -/
def sel (Rw : Nat → Nat → Bool) (n p : Nat) : Nat := (((List.range n).filter fun i => Rw i p).map fun i => 2 ^ i).sum
theorem sel_lt (Rw : Nat → Nat → Bool) (p : Nat) : ∀ n, sel Rw n p < 2 ^ n
  | 0 => by simp [sel]
  | n + 1 => by
    have := sel_lt Rw p n
    unfold sel at this ⊢
    rw [List.range_succ, List.filter_append, List.map_append, List.sum_append, Nat.pow_succ]
    cases h : Rw n p <;> simp [h] <;> omega
def rowsF (m n : Nat) (Rw : Nat → Nat → Bool) : D := .lst ((List.range n).map fun i => fD m (Rw i))
theorem f40_ok (k : Nat) {n m : Nat} (hn : n ≤ 10) (hn1 : 1 ≤ n) (hm : m ≤ 10) (b : Nat → Bool) (Rw : Nat → Nat → Bool) (h : 4 ≤ k) : (fnEval G k 40 [.sh (fD n b), .sh (rowsF m n Rw)]).res = .ok (fD m fun p => b (sel Rw n p)) false := by
  obtain ⟨k, rfl⟩ : ∃ j, k = j + 1 := ⟨k - 1, by omega⟩
  rw [fn_at k [.sh (fD n b), .sh (rowsF m n Rw)] [.sh (fD n b), .sh (rowsF m n Rw), .no, .no, .no, .no, .no] (show G.fns[40]? = some f40 from rfl) rfl rfl]
  have p2 := p2le hn
  have q2 := p2le hm
  have c1 := chkf k n b hn (by omega)
  have i0 := ixF0 n b
  have i1 := ixF1 n b
  have isl : ∀ t, isiD (rowsF m n Rw) t = some (decide (t = .list)) := fun t => by cases t <;> rfl
  have ln : biD .len [rowsF m n Rw] = some (nD n, false) := by
    show some (nD ((List.range n).map fun i => fD m (Rw i)).length, false) = _
    simp
  have ix : ∀ i, i < n → ixD (rowsF m n Rw) (nD i) = some (fD m (Rw i)) := fun i hi => ixRange hi
  have tr : truD (rowsF m n Rw) = some true := by
    show some (!((List.range n).map fun i => fD m (Rw i)).isEmpty) = _
    rw [List.isEmpty_map]
    cases n with
    | zero => omega
    | succ n => rw [List.range_succ_eq_map]; rfl
  refine go_expr (Is _) (x := (.non, false)) (e1 := [.sh (fD n b), .sh (rowsF m n Rw), .no, .no, .no, .no, .no]) (by simp [c1, exR, evR, lineOk, sizeLine_eq, ofX, ofF, noR, R.out, R.bind, R.of, with1, with2, withs, Bor.res, Bor.frz, ress, frzs, bl2, dat, Sl.get?, Sl.frz, mkSl, Out.res, Res.put, mkArgs, ioAt, doCall, putIos, nd0, nd1, ndl, ndc, nAdd, nSub, nMul, nDiv, nMod, nShl, nShr, nAnd, nXor, nPow, sAdd, lAdd, rAdd, tAdd, lMul, sMul, cEqN, cEqS, cEqB, cNeN, cNeS, cNeB, cLt, cLe, cGt, cGe, cIs, cIsN, isNonN, isNonS, isNonL, isNonR, isNonT, isNonB, isNon0, inS, ninS, tN, tB, tL, tT, tR, t0, bLenL, bLenT, bLenR, bLenS, bIntN, bMin, bMax, bSum, bLstL, bLstT, bTupL, bTupT, ixL, ixT, ixR, ixS, isiN, isiR, flatN, flatR, mutN, mutR, itR, itL, itT, itS, cNilR, cNilN, cNilL, cNilM, meTyJ, inR, ninR, flat0, flatB, flatI, flatS, flatF, flatL, flatT, flatD, mut0, mutB, mutI, mutS, mutF, mutL, mutT, mutD, isi0, isiB, isiI, isiS, isiL, isiT, isiDc, muOk, muTyR, muTyL, muAR, muAL, rMul, setR, bAbs]) ?_
  refine go_ff (Is _) (e1 := [.sh (fD n b), .sh (rowsF m n Rw), .no, .no, .no, .no, .no]) (by simp [isl, ln, i0, exR, evR, lineOk, sizeLine_eq, ofX, ofF, noR, R.out, R.bind, R.of, with1, with2, withs, Bor.res, Bor.frz, ress, frzs, bl2, dat, Sl.get?, Sl.frz, mkSl, Out.res, Res.put, mkArgs, ioAt, doCall, putIos, nd0, nd1, ndl, ndc, nAdd, nSub, nMul, nDiv, nMod, nShl, nShr, nAnd, nXor, nPow, sAdd, lAdd, rAdd, tAdd, lMul, sMul, cEqN, cEqS, cEqB, cNeN, cNeS, cNeB, cLt, cLe, cGt, cGe, cIs, cIsN, isNonN, isNonS, isNonL, isNonR, isNonT, isNonB, isNon0, inS, ninS, tN, tB, tL, tT, tR, t0, bLenL, bLenT, bLenR, bLenS, bIntN, bMin, bMax, bSum, bLstL, bLstT, bTupL, bTupT, ixL, ixT, ixR, ixS, isiN, isiR, flatN, flatR, mutN, mutR, itR, itL, itT, itS, cNilR, cNilN, cNilL, cNilM, meTyJ, inR, ninR, flat0, flatB, flatI, flatS, flatF, flatL, flatT, flatD, mut0, mutB, mutI, mutS, mutF, mutL, mutT, mutD, isi0, isiB, isiI, isiS, isiL, isiT, isiDc, muOk, muTyR, muTyL, muAR, muAL, rMul, setR, bAbs]) ?_
  -- each row a function
  obtain ⟨e', k1, x, k2⟩ := for_thru (tg := .nm 2) (body := (exR G (fnEval G k) [] F40b0).x) (fun i e => ∃ x, e = [.sh (fD n b), .sh (rowsF m n Rw), x, .no, .no, .no, .no]) ((List.range n).map fun i => fD m (Rw i)) 0 [.sh (fD n b), .sh (rowsF m n Rw), .no, .no, .no, .no, .no] ⟨_, rfl⟩ fun j d e hj ⟨x, hx⟩ => by
    subst hx
    obtain ⟨i, _, rfl⟩ := List.mem_map.mp (List.mem_of_getElem? hj)
    have c2 := chkf k m (Rw i) hm (by omega)
    refine ⟨[.sh (fD n b), .sh (rowsF m n Rw), .sh (fD m (Rw i)), .no, .no, .no, .no], [.sh (fD n b), .sh (rowsF m n Rw), .sh (fD m (Rw i)), .no, .no, .no, .no], rfl, .inl ?_, _, rfl⟩
    generalize fD m (Rw i) = r at c2 ⊢
    unfold F40b0
    simp [c2, exR, evR, lineOk, sizeLine_eq, ofX, ofF, noR, R.out, R.bind, R.of, with1, with2, withs, Bor.res, Bor.frz, ress, frzs, bl2, dat, Sl.get?, Sl.frz, mkSl, Out.res, Res.put, mkArgs, ioAt, doCall, putIos, nd0, nd1, ndl, ndc, nAdd, nSub, nMul, nDiv, nMod, nShl, nShr, nAnd, nXor, nPow, sAdd, lAdd, rAdd, tAdd, lMul, sMul, cEqN, cEqS, cEqB, cNeN, cNeS, cNeB, cLt, cLe, cGt, cGe, cIs, cIsN, isNonN, isNonS, isNonL, isNonR, isNonT, isNonB, isNon0, inS, ninS, tN, tB, tL, tT, tR, t0, bLenL, bLenT, bLenR, bLenS, bIntN, bMin, bMax, bSum, bLstL, bLstT, bTupL, bTupT, ixL, ixT, ixR, ixS, isiN, isiR, flatN, flatR, mutN, mutR, itR, itL, itT, itS, cNilR, cNilN, cNilL, cNilM, meTyJ, inR, ninR, flat0, flatB, flatI, flatS, flatF, flatL, flatT, flatD, mut0, mutB, mutI, mutS, mutF, mutL, mutT, mutD, isi0, isiB, isiI, isiS, isiL, isiT, isiDc, muOk, muTyR, muTyL, muAR, muAL, rMul, setR, bAbs]
  subst k2
  refine go_nx (Is _) (e1 := [.sh (fD n b), .sh (rowsF m n Rw), x, .no, .no, .no, .no]) (by
    unfold F40l0
    exact for_nx rfl rfl k1) ?_
  have hc0 : (evR G (fnEval G k) F40c0).f [.sh (fD n b), .sh (rowsF m n Rw), x, .no, .no, .no, .no] = .ok (.lst [], true) [.sh (fD n b), .sh (rowsF m n Rw), x, .no, .no, .no, .no] := by
    have e := comp_det (G := G) (call := fnEval G k) (el := .var 2) (it := .var 1) (c := .cmp .NotEq (.ix (.var 2) (.lit (.int 0))) (.ix (.ix (.var 1) (.lit (.int 0))) (.lit (.int 0)))) (v := 2) (s := "row") (e := [.sh (fD n b), .sh (rowsF m n Rw), x, .no, .no, .no, .no]) (e1 := [.sh (fD n b), .sh (rowsF m n Rw), x, .no, .no, .no, .no]) (List.range n) (fun i => fD m (Rw i)) (fun _ => false) (fun i => fD m (Rw i)) rfl (by simp; omega) (fun i _ => by
      have j0 := ixF0 m (Rw i)
      have j1 := ixF0 m (Rw 0)
      have x0 := ix 0 (by omega)
      generalize fD m (Rw i) = r at j0 ⊢
      generalize fD m (Rw 0) = r0 at j1 x0
      simp [j0, j1, x0, exR, evR, lineOk, sizeLine_eq, ofX, ofF, noR, R.out, R.bind, R.of, with1, with2, withs, Bor.res, Bor.frz, ress, frzs, bl2, dat, Sl.get?, Sl.frz, mkSl, Out.res, Res.put, mkArgs, ioAt, doCall, putIos, nd0, nd1, ndl, ndc, nAdd, nSub, nMul, nDiv, nMod, nShl, nShr, nAnd, nXor, nPow, sAdd, lAdd, rAdd, tAdd, lMul, sMul, cEqN, cEqS, cEqB, cNeN, cNeS, cNeB, cLt, cLe, cGt, cGe, cIs, cIsN, isNonN, isNonS, isNonL, isNonR, isNonT, isNonB, isNon0, inS, ninS, tN, tB, tL, tT, tR, t0, bLenL, bLenT, bLenR, bLenS, bIntN, bMin, bMax, bSum, bLstL, bLstT, bTupL, bTupT, ixL, ixT, ixR, ixS, isiN, isiR, flatN, flatR, mutN, mutR, itR, itL, itT, itS, cNilR, cNilN, cNilL, cNilM, meTyJ, inR, ninR, flat0, flatB, flatI, flatS, flatF, flatL, flatT, flatD, mut0, mutB, mutI, mutS, mutF, mutL, mutT, mutD, isi0, isiB, isiI, isiS, isiL, isiT, isiDc, muOk, muTyR, muTyL, muAR, muAL, rMul, setR, bAbs]) (fun w _ hw => by cases hw)
    rw [filt_false] at e
    exact e
  refine go_ff (Is _) (e1 := [.sh (fD n b), .sh (rowsF m n Rw), x, .no, .no, .no, .no]) (by simp [hc0, exR, evR, lineOk, sizeLine_eq, ofX, ofF, noR, R.out, R.bind, R.of, with1, with2, withs, Bor.res, Bor.frz, ress, frzs, bl2, dat, Sl.get?, Sl.frz, mkSl, Out.res, Res.put, mkArgs, ioAt, doCall, putIos, nd0, nd1, ndl, ndc, nAdd, nSub, nMul, nDiv, nMod, nShl, nShr, nAnd, nXor, nPow, sAdd, lAdd, rAdd, tAdd, lMul, sMul, cEqN, cEqS, cEqB, cNeN, cNeS, cNeB, cLt, cLe, cGt, cGe, cIs, cIsN, isNonN, isNonS, isNonL, isNonR, isNonT, isNonB, isNon0, inS, ninS, tN, tB, tL, tT, tR, t0, bLenL, bLenT, bLenR, bLenS, bIntN, bMin, bMax, bSum, bLstL, bLstT, bTupL, bTupT, ixL, ixT, ixR, ixS, isiN, isiR, flatN, flatR, mutN, mutR, itR, itL, itT, itS, cNilR, cNilN, cNilL, cNilM, meTyJ, inR, ninR, flat0, flatB, flatI, flatS, flatF, flatL, flatT, flatD, mut0, mutB, mutI, mutS, mutF, mutL, mutT, mutD, isi0, isiB, isiI, isiS, isiL, isiT, isiDc, muOk, muTyR, muTyL, muAR, muAL, rMul, setR, bAbs]) ?_
  refine go_asg (Is _) (x := (nD m, false)) (e1 := [.sh (fD n b), .sh (rowsF m n Rw), x, .no, .no, .no, .no]) (by
    have j1 := ixF0 m (Rw 0)
    have x0 := ix 0 (by omega)
    generalize fD m (Rw 0) = r0 at j1 x0
    simp [tr, j1, x0, exR, evR, lineOk, sizeLine_eq, ofX, ofF, noR, R.out, R.bind, R.of, with1, with2, withs, Bor.res, Bor.frz, ress, frzs, bl2, dat, Sl.get?, Sl.frz, mkSl, Out.res, Res.put, mkArgs, ioAt, doCall, putIos, nd0, nd1, ndl, ndc, nAdd, nSub, nMul, nDiv, nMod, nShl, nShr, nAnd, nXor, nPow, sAdd, lAdd, rAdd, tAdd, lMul, sMul, cEqN, cEqS, cEqB, cNeN, cNeS, cNeB, cLt, cLe, cGt, cGe, cIs, cIsN, isNonN, isNonS, isNonL, isNonR, isNonT, isNonB, isNon0, inS, ninS, tN, tB, tL, tT, tR, t0, bLenL, bLenT, bLenR, bLenS, bIntN, bMin, bMax, bSum, bLstL, bLstT, bTupL, bTupT, ixL, ixT, ixR, ixS, isiN, isiR, flatN, flatR, mutN, mutR, itR, itL, itT, itS, cNilR, cNilN, cNilL, cNilM, meTyJ, inR, ninR, flat0, flatB, flatI, flatS, flatF, flatL, flatT, flatD, mut0, mutB, mutI, mutS, mutF, mutL, mutT, mutD, isi0, isiB, isiI, isiS, isiL, isiT, isiDc, muOk, muTyR, muTyL, muAR, muAL, rMul, setR, bAbs]) rfl ?_
  refine go_asg (Is _) (x := (.lst [], true)) (e1 := [.sh (fD n b), .sh (rowsF m n Rw), x, .sh (nD m), .no, .no, .no]) rfl rfl ?_
  show Is _ ((exR G (fnEval G k) [] _).x [.sh (fD n b), .sh (rowsF m n Rw), x, .sh (nD m), .ow (.lst []), .no, .no])
  obtain ⟨e', k1, y, k2⟩ := for_thru (tg := .nm 5) (body := (exR G (fnEval G k) [] F40b1).x) (fun i e => ∃ y, e = [.sh (fD n b), .sh (rowsF m n Rw), x, .sh (nD m), .ow (.lst ((List.range i).map fun p => .str [ch (b (sel Rw n p))])), y, .no]) (rngL 0 (2 ^ m)) 0 [.sh (fD n b), .sh (rowsF m n Rw), x, .sh (nD m), .ow (.lst []), .no, .no] ⟨_, rfl⟩ fun j d e hj ⟨y, hx⟩ => by
    subst hx
    have hlt : j < 2 ^ m := by
      have := (List.getElem?_eq_some_iff.mp hj).1
      rwa [rng_len] at this
    rw [rng_at hlt] at hj
    have hd : d = nD j := by simpa [nD] using hj.symm
    subst hd
    rw [Nat.zero_add]
    refine ⟨[.sh (fD n b), .sh (rowsF m n Rw), x, .sh (nD m), .ow (.lst ((List.range j).map fun p => .str [ch (b (sel Rw n p))])), .sh (nD j), .no], [.sh (fD n b), .sh (rowsF m n Rw), x, .sh (nD m), .ow (.lst ((List.range (j + 1)).map fun p => .str [ch (b (sel Rw n p))])), .sh (nD j), .no], rfl, .inl ?_, _, rfl⟩
    have e1 : (List.range (j + 1)).map (fun p => D.str [ch (b (sel Rw n p))]) = (List.range j).map (fun p => D.str [ch (b (sel Rw n p))]) ++ [.str [ch (b (sel Rw n j))]] := by
      rw [List.range_succ, List.map_append]
      rfl
    rw [e1]
    have ma := muAL (l := (List.range j).map fun p => D.str [ch (b (sel Rw n p))]) (.str [ch (b (sel Rw n j))]) (by simp; omega)
    generalize ((List.range j).map fun p => D.str [ch (b (sel Rw n p))]) = acc at ma ⊢
    have cc : (evR G (fnEval G k) F40c1).f [.sh (fD n b), .sh (rowsF m n Rw), x, .sh (nD m), .ow (.lst acc), .sh (nD j), .no] = .ok (rowsD (((List.range n).filter fun i => Rw i j).map fun i => 2 ^ i), true) [.sh (fD n b), .sh (rowsF m n Rw), x, .sh (nD m), .ow (.lst acc), .sh (nD j), .no] := by
      rw [← rows_map]
      refine comp_det (List.range n) nD (fun i => Rw i j) (fun i => nD (2 ^ i)) (rng1_i (fr := false) (by simp [ln, exR, evR, lineOk, sizeLine_eq, ofX, ofF, noR, R.out, R.bind, R.of, with1, with2, withs, Bor.res, Bor.frz, ress, frzs, bl2, dat, Sl.get?, Sl.frz, mkSl, Out.res, Res.put, mkArgs, ioAt, doCall, putIos, nd0, nd1, ndl, ndc, nAdd, nSub, nMul, nDiv, nMod, nShl, nShr, nAnd, nXor, nPow, sAdd, lAdd, rAdd, tAdd, lMul, sMul, cEqN, cEqS, cEqB, cNeN, cNeS, cNeB, cLt, cLe, cGt, cGe, cIs, cIsN, isNonN, isNonS, isNonL, isNonR, isNonT, isNonB, isNon0, inS, ninS, tN, tB, tL, tT, tR, t0, bLenL, bLenT, bLenR, bLenS, bIntN, bMin, bMax, bSum, bLstL, bLstT, bTupL, bTupT, ixL, ixT, ixR, ixS, isiN, isiR, flatN, flatR, mutN, mutR, itR, itL, itT, itS, cNilR, cNilN, cNilL, cNilM, meTyJ, inR, ninR, flat0, flatB, flatI, flatS, flatF, flatL, flatT, flatD, mut0, mutB, mutI, mutS, mutF, mutL, mutT, mutD, isi0, isiB, isiI, isiS, isiL, isiT, isiDc, muOk, muTyR, muTyL, muAR, muAL, rMul, setR, bAbs]) (by omega)) (by simp; omega) (fun i hi => ?_) (fun i hi _ => ⟨false, ?_⟩)
      · have xi := ix i (by simpa using hi)
        have j1 := ixF1 m (Rw i)
        have tx := ixTx (Rw i) hm hlt
        have e := cEq1 (Rw i j)
        generalize fD m (Rw i) = r at xi j1
        simp [xi, j1, tx, e, exR, evR, lineOk, sizeLine_eq, ofX, ofF, noR, R.out, R.bind, R.of, with1, with2, withs, Bor.res, Bor.frz, ress, frzs, bl2, dat, Sl.get?, Sl.frz, mkSl, Out.res, Res.put, mkArgs, ioAt, doCall, putIos, nd0, nd1, ndl, ndc, nAdd, nSub, nMul, nDiv, nMod, nShl, nShr, nAnd, nXor, nPow, sAdd, lAdd, rAdd, tAdd, lMul, sMul, cEqN, cEqB, cNeN, cNeB, cLt, cLe, cGt, cGe, cIs, cIsN, isNonN, isNonS, isNonL, isNonR, isNonT, isNonB, isNon0, inS, ninS, tN, tB, tL, tT, tR, t0, bLenL, bLenT, bLenR, bLenS, bIntN, bMin, bMax, bSum, bLstL, bLstT, bTupL, bTupT, ixL, ixT, ixR, ixS, isiN, isiR, flatN, flatR, mutN, mutR, itR, itL, itT, itS, cNilR, cNilN, cNilL, cNilM, meTyJ, inR, ninR, flat0, flatB, flatI, flatS, flatF, flatL, flatT, flatD, mut0, mutB, mutI, mutS, mutF, mutL, mutT, mutD, isi0, isiB, isiI, isiS, isiL, isiT, isiDc, muOk, muTyR, muTyL, muAR, muAL, rMul, setR, bAbs]
      · have hi' : i < n := by simpa using hi
        have t := two k i (by omega) (by omega)
        generalize 2 ^ i = w at t ⊢
        simp [t, exR, evR, lineOk, sizeLine_eq, ofX, ofF, noR, R.out, R.bind, R.of, with1, with2, withs, Bor.res, Bor.frz, ress, frzs, bl2, dat, Sl.get?, Sl.frz, mkSl, Out.res, Res.put, mkArgs, ioAt, doCall, putIos, nd0, nd1, ndl, ndc, nAdd, nSub, nMul, nDiv, nMod, nShl, nShr, nAnd, nXor, nPow, sAdd, lAdd, rAdd, tAdd, lMul, sMul, cEqN, cEqS, cEqB, cNeN, cNeS, cNeB, cLt, cLe, cGt, cGe, cIs, cIsN, isNonN, isNonS, isNonL, isNonR, isNonT, isNonB, isNon0, inS, ninS, tN, tB, tL, tT, tR, t0, bLenL, bLenT, bLenR, bLenS, bIntN, bMin, bMax, bSum, bLstL, bLstT, bTupL, bTupT, ixL, ixT, ixR, ixS, isiN, isiR, flatN, flatR, mutN, mutR, itR, itL, itT, itS, cNilR, cNilN, cNilL, cNilM, meTyJ, inR, ninR, flat0, flatB, flatI, flatS, flatF, flatL, flatT, flatD, mut0, mutB, mutI, mutS, mutF, mutL, mutT, mutD, isi0, isiB, isiI, isiS, isiL, isiT, isiDc, muOk, muTyR, muTyL, muAR, muAL, rMul, setR, bAbs]
    have sm : biD .sum [rowsD (((List.range n).filter fun i => Rw i j).map fun i => 2 ^ i)] = some (nD (sel Rw n j), false) := bSum _
    have tb := ixTx b hn (sel_lt Rw j n)
    generalize sel Rw n j = q at sm tb ma ⊢
    generalize rowsD (((List.range n).filter fun i => Rw i j).map fun i => 2 ^ i) = rs at cc sm
    unfold F40b1
    simp [cc, sm, tb, ma, i1, exR, evR, lineOk, sizeLine_eq, ofX, ofF, noR, R.out, R.bind, R.of, with1, with2, withs, Bor.res, Bor.frz, ress, frzs, bl2, dat, Sl.get?, Sl.frz, mkSl, Out.res, Res.put, mkArgs, ioAt, doCall, putIos, nd0, nd1, ndl, ndc, nAdd, nSub, nMul, nDiv, nMod, nShl, nShr, nAnd, nXor, nPow, sAdd, lAdd, rAdd, tAdd, lMul, sMul, cEqN, cEqS, cEqB, cNeN, cNeS, cNeB, cLt, cLe, cGt, cGe, cIs, cIsN, isNonN, isNonS, isNonL, isNonR, isNonT, isNonB, isNon0, inS, ninS, tN, tB, tL, tT, tR, t0, bLenL, bLenT, bLenR, bLenS, bIntN, bMin, bMax, bLstL, bLstT, bTupL, bTupT, ixL, ixT, ixR, ixS, isiN, isiR, flatN, flatR, mutN, mutR, itR, itL, itT, itS, cNilR, cNilN, cNilL, cNilM, meTyJ, inR, ninR, flat0, flatB, flatI, flatS, flatF, flatL, flatT, flatD, mut0, mutB, mutI, mutS, mutF, mutL, mutT, mutD, isi0, isiB, isiI, isiS, isiL, isiT, isiDc, muOk, muTyR, muTyL, muAR, muAL, rMul, setR, bAbs]
  subst k2
  rw [rng_len, Nat.zero_add] at k1
  have t := two k m (by omega) (by omega)
  have hi : (evR G (fnEval G k) (.rng1 (.call 4 (.cons (.var 3) .nil)))).i [.sh (fD n b), .sh (rowsF m n Rw), x, .sh (nD m), .ow (.lst []), .no, .no] = .ok (rngL 0 (2 ^ m)) [.sh (fD n b), .sh (rowsF m n Rw), x, .sh (nD m), .ow (.lst []), .no, .no] := by
    rw [rng_range]
    refine rng1_i (fr := false) ?_ (by omega)
    generalize 2 ^ m = w at t ⊢
    simp [t, exR, evR, lineOk, sizeLine_eq, ofX, ofF, noR, R.out, R.bind, R.of, with1, with2, withs, Bor.res, Bor.frz, ress, frzs, bl2, dat, Sl.get?, Sl.frz, mkSl, Out.res, Res.put, mkArgs, ioAt, doCall, putIos, nd0, nd1, ndl, ndc, nAdd, nSub, nMul, nDiv, nMod, nShl, nShr, nAnd, nXor, nPow, sAdd, lAdd, rAdd, tAdd, lMul, sMul, cEqN, cEqS, cEqB, cNeN, cNeS, cNeB, cLt, cLe, cGt, cGe, cIs, cIsN, isNonN, isNonS, isNonL, isNonR, isNonT, isNonB, isNon0, inS, ninS, tN, tB, tL, tT, tR, t0, bLenL, bLenT, bLenR, bLenS, bIntN, bMin, bMax, bSum, bLstL, bLstT, bTupL, bTupT, ixL, ixT, ixR, ixS, isiN, isiR, flatN, flatR, mutN, mutR, itR, itL, itT, itS, cNilR, cNilN, cNilL, cNilM, meTyJ, inR, ninR, flat0, flatB, flatI, flatS, flatF, flatL, flatT, flatD, mut0, mutB, mutI, mutS, mutF, mutL, mutT, mutD, isi0, isiB, isiI, isiS, isiL, isiT, isiDc, muOk, muTyR, muTyL, muAR, muAL, rMul, setR, bAbs]
  refine go_nx (Is _) (e1 := [.sh (fD n b), .sh (rowsF m n Rw), x, .sh (nD m), .ow (.lst ((List.range (2 ^ m)).map fun p => .str [ch (b (sel Rw n p))])), y, .no]) (by
    unfold F40l1
    exact for_nx rfl hi k1) ?_
  have jm := join_map (List.range (2 ^ m)) (fun p => ch (b (sel Rw n p))) (by simp; omega)
  have e0 : fD m (fun p => b (sel Rw n p)) = .tup [nD m, .str ((List.range (2 ^ m)).map fun p => ch (b (sel Rw n p)))] := rfl
  rw [e0]
  generalize ((List.range (2 ^ m)).map fun p => D.str [ch (b (sel Rw n p))]) = ds at jm ⊢
  generalize ((List.range (2 ^ m)).map fun p => ch (b (sel Rw n p))) = js at jm ⊢
  refine go_ret (Is _) (x := (.tup [nD m, .str js], false)) (e1 := [.sh (fD n b), .sh (rowsF m n Rw), x, .sh (nD m), .ow (.lst ds), y, .no]) (by intro i h; cases h) (by simp [jm, exR, evR, lineOk, sizeLine_eq, ofX, ofF, noR, R.out, R.bind, R.of, with1, with2, withs, Bor.res, Bor.frz, ress, frzs, bl2, dat, Sl.get?, Sl.frz, mkSl, Out.res, Res.put, mkArgs, ioAt, doCall, putIos, nd0, nd1, ndl, ndc, nAdd, nSub, nMul, nDiv, nMod, nShl, nShr, nAnd, nXor, nPow, sAdd, lAdd, rAdd, tAdd, lMul, sMul, cEqN, cEqS, cEqB, cNeN, cNeS, cNeB, cLt, cLe, cGt, cGe, cIs, cIsN, isNonN, isNonS, isNonL, isNonR, isNonT, isNonB, isNon0, inS, ninS, tN, tB, tL, tT, tR, t0, bLenL, bLenT, bLenR, bLenS, bIntN, bMin, bMax, bSum, bLstL, bLstT, bTupL, bTupT, ixL, ixT, ixR, ixS, isiN, isiR, flatN, flatR, mutN, mutR, itR, itL, itT, itS, cNilR, cNilN, cNilL, cNilM, meTyJ, inR, ninR, flat0, flatB, flatI, flatS, flatF, flatL, flatT, flatD, mut0, mutB, mutI, mutS, mutF, mutL, mutT, mutD, isi0, isiB, isiI, isiS, isiL, isiT, isiDc, muOk, muTyR, muTyL, muAR, muAL, rMul, setR, bAbs]) ?_
  rfl
/-- the law's own putting in -/
theorem f50_ok (k : Nat) {n : Nat} (hn : n ≤ 10) (b : Nat → Bool) (ps : List (Nat × Nat)) (hp : ∀ z ∈ ps, z.1 < n ∧ z.2 ≤ 1) (hl : ps.length ≤ 1000) (h : 2 ≤ k) : (fnEval G k 50 [.sh (fD n b), .sh (pD ps)]).res = .ok (fD n fun p => b (putQ p ps)) false := by
  obtain ⟨k, rfl⟩ : ∃ j, k = j + 1 := ⟨k - 1, by omega⟩
  rw [fn_at k [.sh (fD n b), .sh (pD ps)] [.sh (fD n b), .sh (pD ps), .no, .no, .no, .no, .no] (show G.fns[50]? = some f50 from rfl) rfl rfl]
  have p2 := p2le hn
  have i0 := ixF0 n b
  have i1 := ixF1 n b
  refine go_asg (Is _) (x := (.lst [], true)) (e1 := [.sh (fD n b), .sh (pD ps), .no, .no, .no, .no, .no]) rfl rfl ?_
  show Is _ ((exR G (fnEval G k) [] _).x [.sh (fD n b), .sh (pD ps), .ow (.lst []), .no, .no, .no, .no])
  obtain ⟨e', k1, s3, s4, s5, s6, k2⟩ := for_thru (tg := .nm 3) (body := (exR G (fnEval G k) [] F50b1).x) (fun i e => ∃ s3 s4 s5 s6, e = [.sh (fD n b), .sh (pD ps), .ow (.lst ((List.range i).map fun p => .bl (b (putQ p ps)))), s3, s4, s5, s6]) ((List.range (2 ^ n)).map nD) 0 [.sh (fD n b), .sh (pD ps), .ow (.lst []), .no, .no, .no, .no] ⟨_, _, _, _, rfl⟩ fun j d e hj ⟨s3, s4, s5, s6, hx⟩ => by
    subst hx
    have hlt : j < 2 ^ n := by
      have := (List.getElem?_eq_some_iff.mp hj).1
      simpa using this
    rw [List.getElem?_map, List.getElem?_range hlt] at hj
    have hd : d = nD j := by simpa using hj.symm
    subst hd
    rw [Nat.zero_add]
    have e1 : (List.range (j + 1)).map (fun p => D.bl (b (putQ p ps))) = (List.range j).map (fun p => D.bl (b (putQ p ps))) ++ [.bl (b (putQ j ps))] := by
      rw [List.range_succ, List.map_append]
      rfl
    rw [e1]
    have ma := muAL (l := (List.range j).map fun p => D.bl (b (putQ p ps))) (.bl (b (putQ j ps))) (by simp; omega)
    generalize ((List.range j).map fun p => D.bl (b (putQ p ps))) = acc at ma ⊢
    -- the pairs
    obtain ⟨e', k1, u5, u6, k2⟩ := for_thru (tg := .tp [5, 6]) (body := (exR G (fnEval G k) [] F50b0).x) (fun i e => ∃ u5 u6, e = [.sh (fD n b), .sh (pD ps), .ow (.lst acc), .sh (nD j), .sh (nD (putQ j (ps.take i))), u5, u6]) (ps.map fun z => .tup [nD z.1, nD z.2]) 0 [.sh (fD n b), .sh (pD ps), .ow (.lst acc), .sh (nD j), .sh (nD j), s5, s6] ⟨_, _, rfl⟩ fun i d e hi ⟨u5, u6, hx⟩ => by
      subst hx
      have hlt : i < ps.length := by
        have := (List.getElem?_eq_some_iff.mp hi).1
        simpa using this
      rw [List.getElem?_map, List.getElem?_eq_getElem hlt] at hi
      have hd : d = .tup [nD ps[i].1, nD ps[i].2] := by simpa using hi.symm
      subst hd
      rw [Nat.zero_add]
      have e2 : putQ j (ps.take (i + 1)) = setb (putQ j (ps.take i)) ps[i].1 ps[i].2 := by
        have e1 : ps.take (i + 1) = ps.take i ++ [ps[i]] := by simp
        unfold putQ
        rw [e1, List.foldl_append]
        rfl
      rw [e2]
      have hm := hp ps[i] (List.getElem_mem hlt)
      generalize putQ j (ps.take i) = q
      generalize ps[i] = z at hm ⊢
      obtain ⟨z1, z2⟩ := z
      simp only at hm ⊢
      have bo := lbit k q z1 (by omega)
      have sh1 := nShl (b := z1) (q / 2 ^ z1 % 2) (by omega) (by omega)
      have sh2 := nShl (b := z1) z2 (by omega) (by omega)
      have sb := nSub (setb_sub q z1)
      have ad := nAdd (q - q / 2 ^ z1 % 2 * 2 ^ z1) (z2 * 2 ^ z1)
      rw [setb_eq] at ad
      refine ⟨[.sh (fD n b), .sh (pD ps), .ow (.lst acc), .sh (nD j), .sh (nD q), .sh (nD z1), .sh (nD z2)], [.sh (fD n b), .sh (pD ps), .ow (.lst acc), .sh (nD j), .sh (nD (setb q z1 z2)), .sh (nD z1), .sh (nD z2)], rfl, .inl ?_, _, _, rfl⟩
      generalize setb q z1 z2 = r at ad ⊢
      generalize q / 2 ^ z1 % 2 * 2 ^ z1 = w1 at sh1 sb ad
      generalize q / 2 ^ z1 % 2 = w0 at bo sh1
      generalize z2 * 2 ^ z1 = w2 at sh2 ad
      generalize q - w1 = w3 at sb ad
      unfold F50b0
      simp [bo, sh1, sh2, sb, ad, exR, evR, lineOk, sizeLine_eq, ofX, ofF, noR, R.out, R.bind, R.of, with1, with2, withs, Bor.res, Bor.frz, ress, frzs, bl2, dat, Sl.get?, Sl.frz, mkSl, Out.res, Res.put, mkArgs, ioAt, doCall, putIos, nd0, nd1, ndl, ndc, nMul, nDiv, nMod, nShr, nAnd, nXor, nPow, sAdd, lAdd, rAdd, tAdd, lMul, sMul, cEqN, cEqS, cEqB, cNeN, cNeS, cNeB, cLt, cLe, cGt, cGe, cIs, cIsN, isNonN, isNonS, isNonL, isNonR, isNonT, isNonB, isNon0, inS, ninS, tN, tB, tL, tT, tR, t0, bLenL, bLenT, bLenR, bLenS, bIntN, bMin, bMax, bSum, bLstL, bLstT, bTupL, bTupT, ixL, ixT, ixR, ixS, isiN, isiR, flatN, flatR, mutN, mutR, itR, itL, itT, itS, cNilR, cNilN, cNilL, cNilM, meTyJ, inR, ninR, flat0, flatB, flatI, flatS, flatF, flatL, flatT, flatD, mut0, mutB, mutI, mutS, mutF, mutL, mutT, mutD, isi0, isiB, isiI, isiS, isiL, isiT, isiDc, muOk, muTyR, muTyL, muAR, muAL, rMul, setR, bAbs]
    subst k2
    rw [List.length_map, Nat.zero_add, List.take_length] at k1
    have tb := ixTx b hn (putQ_lt (ps := ps) hp hlt)
    have eq1 := cEq1 (b (putQ j ps))
    refine ⟨[.sh (fD n b), .sh (pD ps), .ow (.lst acc), .sh (nD j), s4, s5, s6], [.sh (fD n b), .sh (pD ps), .ow (.lst (acc ++ [.bl (b (putQ j ps))])), .sh (nD j), .sh (nD (putQ j ps)), u5, u6], rfl, .inl ?_, _, _, _, _, rfl⟩
    generalize b (putQ j ps) = bv at tb eq1 ma ⊢
    generalize putQ j ps = q at k1 tb ⊢
    unfold F50b1
    rw [seq_nx (asg_nx (x := (nD j, false)) (e1 := [.sh (fD n b), .sh (pD ps), .ow (.lst acc), .sh (nD j), s4, s5, s6]) rfl rfl)]
    refine (seq_nx (s := F50l0) (e1 := [.sh (fD n b), .sh (pD ps), .ow (.lst acc), .sh (nD j), .sh (nD q), u5, u6]) (by
      unfold F50l0
      exact for_nx rfl rfl k1)).trans ?_
    simp [i1, tb, eq1, ma, exR, evR, lineOk, sizeLine_eq, ofX, ofF, noR, R.out, R.bind, R.of, with1, with2, withs, Bor.res, Bor.frz, ress, frzs, bl2, dat, Sl.get?, Sl.frz, mkSl, Out.res, Res.put, mkArgs, ioAt, doCall, putIos, nd0, nd1, ndl, ndc, nAdd, nSub, nMul, nDiv, nMod, nShl, nShr, nAnd, nXor, nPow, sAdd, lAdd, rAdd, tAdd, lMul, sMul, cEqN, cEqB, cNeN, cNeB, cLt, cLe, cGt, cGe, cIs, cIsN, isNonN, isNonS, isNonL, isNonR, isNonT, isNonB, isNon0, inS, ninS, tN, tB, tL, tT, tR, t0, bLenL, bLenT, bLenR, bLenS, bIntN, bMin, bMax, bSum, bLstL, bLstT, bTupL, bTupT, ixL, ixT, ixR, ixS, isiN, isiR, flatN, flatR, mutN, mutR, itR, itL, itT, itS, cNilR, cNilN, cNilL, cNilM, meTyJ, inR, ninR, flat0, flatB, flatI, flatS, flatF, flatL, flatT, flatD, mut0, mutB, mutI, mutS, mutF, mutL, mutT, mutD, isi0, isiB, isiI, isiS, isiL, isiT, isiDc, muOk, muTyR, muTyL, muAR, muAL, rMul, setR, bAbs]
  subst k2
  rw [List.length_map, List.length_range, Nat.zero_add] at k1
  refine go_nx (Is _) (e1 := [.sh (fD n b), .sh (pD ps), .ow (.lst ((List.range (2 ^ n)).map fun p => .bl (b (putQ p ps)))), s3, s4, s5, s6]) (by
    unfold F50l1
    exact for_nx rfl (rngF hn b _ _ rfl) k1) ?_
  have o := made k n (fun p => .bl (b (putQ p ps))) (fun p => b (putQ p ps)) hn (fun p _ => rfl) (by omega)
  generalize fD n (fun p => b (putQ p ps)) = r at o ⊢
  generalize ((List.range (2 ^ n)).map fun p => D.bl (b (putQ p ps))) = ds at o ⊢
  refine go_ret (Is _) (x := (r, false)) (e1 := if r.flat = true then [.sh (fD n b), .sh (pD ps), .ow (.lst ds), s3, s4, s5, s6] else [.sh (fD n b), .sh (pD ps), .sh (.lst ds), s3, s4, s5, s6]) (by intro i h; cases h) (by simp [i0, o, exR, evR, lineOk, sizeLine_eq, ofX, ofF, noR, R.out, R.bind, R.of, with1, with2, withs, Bor.res, Bor.frz, ress, frzs, bl2, dat, Sl.get?, Sl.frz, mkSl, Out.res, Res.put, mkArgs, ioAt, doCall, putIos, nd0, nd1, ndl, ndc, nAdd, nSub, nMul, nDiv, nMod, nShl, nShr, nAnd, nXor, nPow, sAdd, lAdd, rAdd, tAdd, lMul, sMul, cEqN, cEqS, cEqB, cNeN, cNeS, cNeB, cLt, cLe, cGt, cGe, cIs, cIsN, isNonN, isNonS, isNonL, isNonR, isNonT, isNonB, isNon0, inS, ninS, tN, tB, tL, tT, tR, t0, bLenL, bLenT, bLenR, bLenS, bIntN, bMin, bMax, bSum, bLstL, bLstT, bTupL, bTupT, ixL, ixT, ixR, ixS, isiN, isiR, flatN, flatR, mutN, mutR, itR, itL, itT, itS, cNilR, cNilN, cNilL, cNilM, meTyJ, inR, ninR, flat0, flatB, flatI, flatS, flatF, flatL, flatT, flatD, mut0, mutB, mutI, mutS, mutF, mutL, mutT, mutD, isi0, isiB, isiI, isiS, isiL, isiT, isiDc, muOk, muTyR, muTyL, muAR, muAL, rMul, setR, bAbs]) ?_
  rfl
end K00
namespace K00
open PySem EV
def bD (n : Nat) (b : Nat → Bool) : D := .lst ((List.range (2 ^ n)).map fun p => .bl (b p))
theorem ixB {n p : Nat} (b : Nat → Bool) (h : p < 2 ^ n) : ixD (bD n b) (nD p) = some (.bl (b p)) := ixRange h
def plD (n : Nat) : D := rowsD (List.range (2 ^ n))
variable (s0 s1 s2 s3 s4 s5 s6 s7 s8 s9 s10 s11 s12 s13 s14 s15 s16 s17 s18 s19 s20 s21 s22 s23 s24 s25 s26 s27 s28 s29 s30 : Sl)
section
variable (call : Nat → List Sl → FR) {n : Nat} (hn : n ≤ 10) (a b c : Nat → Bool)
include hn
theorem g0 : (evR G call F51c0).f [s0, s1, s2, s3, s4, s5, s6, s7, s8, s9, s10, s11, s12, s13, .sh (fD n a), s15, s16, s17, s18, s19, s20, s21, s22, s23, s24, s25, s26, s27, s28, s29, s30] = .ok (bD n a, true) [s0, s1, s2, s3, s4, s5, s6, s7, s8, s9, s10, s11, s12, s13, .sh (fD n a), s15, s16, s17, s18, s19, s20, s21, s22, s23, s24, s25, s26, s27, s28, s29, s30] := by
  have p2 := p2le hn
  refine comp_all (List.range (2 ^ n)) (fun p => .str [ch (a p)]) (fun p => .bl (a p)) ?_ (by simp; omega) (fun p hp => ⟨false, by simp [exR, evR, lineOk, sizeLine_eq, ofX, ofF, noR, R.out, R.bind, R.of, with1, with2, withs, Bor.res, Bor.frz, ress, frzs, bl2, dat, Sl.get?, Sl.frz, mkSl, Out.res, Res.put, mkArgs, ioAt, doCall, putIos, nd0, nd1, ndl, ndc, nAdd, nSub, nMul, nDiv, nMod, nShl, nShr, nAnd, nXor, nPow, sAdd, lAdd, rAdd, tAdd, lMul, sMul, cEqN, cEqS, cEqB, cNeN, cNeS, cNeB, cLt, cLe, cGt, cGe, cIs, cIsN, isNonN, isNonS, isNonL, isNonR, isNonT, isNonB, isNon0, inS, ninS, tN, tB, tL, tT, tR, t0, bLenL, bLenT, bLenR, bLenS, bIntN, bMin, bMax, bSum, bLstL, bLstT, bTupL, bTupT, ixL, ixT, ixR, ixS, isiN, isiR, flatN, flatR, mutN, mutR, itR, itL, itT, itS, cNilR, cNilN, cNilL, cNilM, meTyJ, inR, ninR, flat0, flatB, flatI, flatS, flatF, flatL, flatT, flatD, mut0, mutB, mutI, mutS, mutF, mutL, mutT, mutD, isi0, isiB, isiI, isiS, isiL, isiT, isiDc, muOk, muTyR, muTyL, muAR, muAL, rMul, setR, bAbs, ixF0, ixF1, flatFn, mutFn, lenF, isiF, dch1, dch0, dchc]⟩)
  rw [← tx_items hn]
  simp [ixF1, exR, evR, lineOk, sizeLine_eq, ofX, ofF, noR, R.out, R.bind, R.of, with1, with2, withs, Bor.res, Bor.frz, ress, frzs, bl2, dat, Sl.get?, Sl.frz, mkSl, Out.res, Res.put, mkArgs, ioAt, doCall, putIos, nd0, nd1, ndl, ndc, nAdd, nSub, nMul, nDiv, nMod, nShl, nShr, nAnd, nXor, nPow, sAdd, lAdd, rAdd, tAdd, lMul, sMul, cEqN, cEqS, cEqB, cNeN, cNeS, cNeB, cLt, cLe, cGt, cGe, cIs, cIsN, isNonN, isNonS, isNonL, isNonR, isNonT, isNonB, isNon0, inS, ninS, tN, tB, tL, tT, tR, t0, bLenL, bLenT, bLenR, bLenS, bIntN, bMin, bMax, bSum, bLstL, bLstT, bTupL, bTupT, ixL, ixT, ixR, ixS, isiN, isiR, flatN, flatR, mutN, mutR, itR, itL, itT, itS, cNilR, cNilN, cNilL, cNilM, meTyJ, inR, ninR, flat0, flatB, flatI, flatS, flatF, flatL, flatT, flatD, mut0, mutB, mutI, mutS, mutF, mutL, mutT, mutD, isi0, isiB, isiI, isiS, isiL, isiT, isiDc, muOk, muTyR, muTyL, muAR, muAL, rMul, setR, bAbs]
theorem g1 : (evR G call F51c1).f [s0, s1, s2, s3, s4, s5, s6, s7, s8, s9, s10, s11, s12, s13, s14, .sh (fD n a), s16, s17, s18, s19, s20, s21, s22, s23, s24, s25, s26, s27, s28, s29, s30] = .ok (bD n a, true) [s0, s1, s2, s3, s4, s5, s6, s7, s8, s9, s10, s11, s12, s13, s14, .sh (fD n a), s16, s17, s18, s19, s20, s21, s22, s23, s24, s25, s26, s27, s28, s29, s30] := by
  have p2 := p2le hn
  refine comp_all (List.range (2 ^ n)) (fun p => .str [ch (a p)]) (fun p => .bl (a p)) ?_ (by simp; omega) (fun p hp => ⟨false, by simp [exR, evR, lineOk, sizeLine_eq, ofX, ofF, noR, R.out, R.bind, R.of, with1, with2, withs, Bor.res, Bor.frz, ress, frzs, bl2, dat, Sl.get?, Sl.frz, mkSl, Out.res, Res.put, mkArgs, ioAt, doCall, putIos, nd0, nd1, ndl, ndc, nAdd, nSub, nMul, nDiv, nMod, nShl, nShr, nAnd, nXor, nPow, sAdd, lAdd, rAdd, tAdd, lMul, sMul, cEqN, cEqS, cEqB, cNeN, cNeS, cNeB, cLt, cLe, cGt, cGe, cIs, cIsN, isNonN, isNonS, isNonL, isNonR, isNonT, isNonB, isNon0, inS, ninS, tN, tB, tL, tT, tR, t0, bLenL, bLenT, bLenR, bLenS, bIntN, bMin, bMax, bSum, bLstL, bLstT, bTupL, bTupT, ixL, ixT, ixR, ixS, isiN, isiR, flatN, flatR, mutN, mutR, itR, itL, itT, itS, cNilR, cNilN, cNilL, cNilM, meTyJ, inR, ninR, flat0, flatB, flatI, flatS, flatF, flatL, flatT, flatD, mut0, mutB, mutI, mutS, mutF, mutL, mutT, mutD, isi0, isiB, isiI, isiS, isiL, isiT, isiDc, muOk, muTyR, muTyL, muAR, muAL, rMul, setR, bAbs, ixF0, ixF1, flatFn, mutFn, lenF, isiF, dch1, dch0, dchc]⟩)
  rw [← tx_items hn]
  simp [ixF1, exR, evR, lineOk, sizeLine_eq, ofX, ofF, noR, R.out, R.bind, R.of, with1, with2, withs, Bor.res, Bor.frz, ress, frzs, bl2, dat, Sl.get?, Sl.frz, mkSl, Out.res, Res.put, mkArgs, ioAt, doCall, putIos, nd0, nd1, ndl, ndc, nAdd, nSub, nMul, nDiv, nMod, nShl, nShr, nAnd, nXor, nPow, sAdd, lAdd, rAdd, tAdd, lMul, sMul, cEqN, cEqS, cEqB, cNeN, cNeS, cNeB, cLt, cLe, cGt, cGe, cIs, cIsN, isNonN, isNonS, isNonL, isNonR, isNonT, isNonB, isNon0, inS, ninS, tN, tB, tL, tT, tR, t0, bLenL, bLenT, bLenR, bLenS, bIntN, bMin, bMax, bSum, bLstL, bLstT, bTupL, bTupT, ixL, ixT, ixR, ixS, isiN, isiR, flatN, flatR, mutN, mutR, itR, itL, itT, itS, cNilR, cNilN, cNilL, cNilM, meTyJ, inR, ninR, flat0, flatB, flatI, flatS, flatF, flatL, flatT, flatD, mut0, mutB, mutI, mutS, mutF, mutL, mutT, mutD, isi0, isiB, isiI, isiS, isiL, isiT, isiDc, muOk, muTyR, muTyL, muAR, muAL, rMul, setR, bAbs]
theorem g2 : (evR G call F51c2).f [s0, s1, s2, s3, s4, s5, s6, s7, s8, s9, s10, s11, s12, s13, s14, s15, .sh (fD n a), s17, s18, s19, s20, s21, s22, s23, s24, s25, s26, s27, s28, s29, s30] = .ok (bD n a, true) [s0, s1, s2, s3, s4, s5, s6, s7, s8, s9, s10, s11, s12, s13, s14, s15, .sh (fD n a), s17, s18, s19, s20, s21, s22, s23, s24, s25, s26, s27, s28, s29, s30] := by
  have p2 := p2le hn
  refine comp_all (List.range (2 ^ n)) (fun p => .str [ch (a p)]) (fun p => .bl (a p)) ?_ (by simp; omega) (fun p hp => ⟨false, by simp [exR, evR, lineOk, sizeLine_eq, ofX, ofF, noR, R.out, R.bind, R.of, with1, with2, withs, Bor.res, Bor.frz, ress, frzs, bl2, dat, Sl.get?, Sl.frz, mkSl, Out.res, Res.put, mkArgs, ioAt, doCall, putIos, nd0, nd1, ndl, ndc, nAdd, nSub, nMul, nDiv, nMod, nShl, nShr, nAnd, nXor, nPow, sAdd, lAdd, rAdd, tAdd, lMul, sMul, cEqN, cEqS, cEqB, cNeN, cNeS, cNeB, cLt, cLe, cGt, cGe, cIs, cIsN, isNonN, isNonS, isNonL, isNonR, isNonT, isNonB, isNon0, inS, ninS, tN, tB, tL, tT, tR, t0, bLenL, bLenT, bLenR, bLenS, bIntN, bMin, bMax, bSum, bLstL, bLstT, bTupL, bTupT, ixL, ixT, ixR, ixS, isiN, isiR, flatN, flatR, mutN, mutR, itR, itL, itT, itS, cNilR, cNilN, cNilL, cNilM, meTyJ, inR, ninR, flat0, flatB, flatI, flatS, flatF, flatL, flatT, flatD, mut0, mutB, mutI, mutS, mutF, mutL, mutT, mutD, isi0, isiB, isiI, isiS, isiL, isiT, isiDc, muOk, muTyR, muTyL, muAR, muAL, rMul, setR, bAbs, ixF0, ixF1, flatFn, mutFn, lenF, isiF, dch1, dch0, dchc]⟩)
  rw [← tx_items hn]
  simp [ixF1, exR, evR, lineOk, sizeLine_eq, ofX, ofF, noR, R.out, R.bind, R.of, with1, with2, withs, Bor.res, Bor.frz, ress, frzs, bl2, dat, Sl.get?, Sl.frz, mkSl, Out.res, Res.put, mkArgs, ioAt, doCall, putIos, nd0, nd1, ndl, ndc, nAdd, nSub, nMul, nDiv, nMod, nShl, nShr, nAnd, nXor, nPow, sAdd, lAdd, rAdd, tAdd, lMul, sMul, cEqN, cEqS, cEqB, cNeN, cNeS, cNeB, cLt, cLe, cGt, cGe, cIs, cIsN, isNonN, isNonS, isNonL, isNonR, isNonT, isNonB, isNon0, inS, ninS, tN, tB, tL, tT, tR, t0, bLenL, bLenT, bLenR, bLenS, bIntN, bMin, bMax, bSum, bLstL, bLstT, bTupL, bTupT, ixL, ixT, ixR, ixS, isiN, isiR, flatN, flatR, mutN, mutR, itR, itL, itT, itS, cNilR, cNilN, cNilL, cNilM, meTyJ, inR, ninR, flat0, flatB, flatI, flatS, flatF, flatL, flatT, flatD, mut0, mutB, mutI, mutS, mutF, mutL, mutT, mutD, isi0, isiB, isiI, isiS, isiL, isiT, isiDc, muOk, muTyR, muTyL, muAR, muAL, rMul, setR, bAbs]
theorem g3 : (evR G call F51c3).f [s0, s1, s2, s3, s4, s5, s6, s7, s8, s9, s10, s11, s12, s13, s14, s15, s16, .sh (bD n a), s18, s19, s20, s21, s22, s23, s24, s25, s26, s27, s28, s29, s30] = .ok (bD n (fun p => !a p), true) [s0, s1, s2, s3, s4, s5, s6, s7, s8, s9, s10, s11, s12, s13, s14, s15, s16, .sh (bD n a), s18, s19, s20, s21, s22, s23, s24, s25, s26, s27, s28, s29, s30] := by
  have p2 := p2le hn
  exact comp_all (List.range (2 ^ n)) (fun p => .bl (a p)) (fun p => .bl (!a p)) rfl (by simp; omega) (fun p hp => ⟨false, by simp [exR, evR, lineOk, sizeLine_eq, ofX, ofF, noR, R.out, R.bind, R.of, with1, with2, withs, Bor.res, Bor.frz, ress, frzs, bl2, dat, Sl.get?, Sl.frz, mkSl, Out.res, Res.put, mkArgs, ioAt, doCall, putIos, nd0, nd1, ndl, ndc, nAdd, nSub, nMul, nDiv, nMod, nShl, nShr, nAnd, nXor, nPow, sAdd, lAdd, rAdd, tAdd, lMul, sMul, cEqN, cEqS, cEqB, cNeN, cNeS, cNeB, cLt, cLe, cGt, cGe, cIs, cIsN, isNonN, isNonS, isNonL, isNonR, isNonT, isNonB, isNon0, inS, ninS, tN, tB, tL, tT, tR, t0, bLenL, bLenT, bLenR, bLenS, bIntN, bMin, bMax, bSum, bLstL, bLstT, bTupL, bTupT, ixL, ixT, ixR, ixS, isiN, isiR, flatN, flatR, mutN, mutR, itR, itL, itT, itS, cNilR, cNilN, cNilL, cNilM, meTyJ, inR, ninR, flat0, flatB, flatI, flatS, flatF, flatL, flatT, flatD, mut0, mutB, mutI, mutS, mutF, mutL, mutT, mutD, isi0, isiB, isiI, isiS, isiL, isiT, isiDc, muOk, muTyR, muTyL, muAR, muAL, rMul, setR, bAbs]⟩)
/-- the walk over the places -/
theorem plI (e : Ev) (h : e.getD 4 .no = .sh (plD n)) : (evR G call (.var 4)).i e = .ok ((List.range (2 ^ n)).map nD) e := by
  show ((match e.getD 4 .no with
      | .no => R.st
      | .sh d => R.ok (d, false) e
      | .ow d => R.ok (d, false) (e.set 4 (.sh d))) : R (D × Bool)).bind _ = _
  rw [h]
  rfl
theorem g4 : (evR G call F51c4).f [s0, s1, s2, s3, .ow (plD n), s5, s6, s7, s8, s9, s10, s11, s12, s13, s14, s15, s16, .sh (bD n a), .sh (bD n b), s19, s20, s21, s22, s23, s24, s25, s26, s27, s28, s29, s30] = .ok (bD n (fun p => a p && b p), true) [s0, s1, s2, s3, .sh (plD n), s5, s6, s7, s8, s9, s10, s11, s12, s13, s14, s15, s16, .sh (bD n a), .sh (bD n b), s19, s20, s21, s22, s23, s24, s25, s26, s27, s28, s29, s30] := by
  have p2 := p2le hn
  refine comp_all (List.range (2 ^ n)) nD (fun p => .bl (a p && b p)) rfl (by simp; omega) (fun p hp => ⟨false, ?_⟩)
  have i1 := ixB a (show p < 2 ^ n by simpa using hp)
  have i2 := ixB b (show p < 2 ^ n by simpa using hp)
  generalize bD n a = x1 at i1 ⊢
  generalize bD n b = x2 at i2 ⊢
  cases ha : a p <;> rw [ha] at i1 <;> simp [i1, i2, exR, evR, lineOk, sizeLine_eq, ofX, ofF, noR, R.out, R.bind, R.of, with1, with2, withs, Bor.res, Bor.frz, ress, frzs, bl2, dat, Sl.get?, Sl.frz, mkSl, Out.res, Res.put, mkArgs, ioAt, doCall, putIos, nd0, nd1, ndl, ndc, nAdd, nSub, nMul, nDiv, nMod, nShl, nShr, nAnd, nXor, nPow, sAdd, lAdd, rAdd, tAdd, lMul, sMul, cEqN, cEqS, cEqB, cNeN, cNeS, cNeB, cLt, cLe, cGt, cGe, cIs, cIsN, isNonN, isNonS, isNonL, isNonR, isNonT, isNonB, isNon0, inS, ninS, tN, tB, tL, tT, tR, t0, bLenL, bLenT, bLenR, bLenS, bIntN, bMin, bMax, bSum, bLstL, bLstT, bTupL, bTupT, ixL, ixT, ixR, ixS, isiN, isiR, flatN, flatR, mutN, mutR, itR, itL, itT, itS, cNilR, cNilN, cNilL, cNilM, meTyJ, inR, ninR, flat0, flatB, flatI, flatS, flatF, flatL, flatT, flatD, mut0, mutB, mutI, mutS, mutF, mutL, mutT, mutD, isi0, isiB, isiI, isiS, isiL, isiT, isiDc, muOk, muTyR, muTyL, muAR, muAL, rMul, setR, bAbs]
theorem g5 : (evR G call F51c5).f [s0, s1, s2, s3, .sh (plD n), s5, s6, s7, s8, s9, s10, s11, s12, s13, s14, s15, s16, .sh (bD n a), .sh (bD n b), s19, s20, s21, s22, s23, s24, s25, s26, s27, s28, s29, s30] = .ok (bD n (fun p => a p || b p), true) [s0, s1, s2, s3, .sh (plD n), s5, s6, s7, s8, s9, s10, s11, s12, s13, s14, s15, s16, .sh (bD n a), .sh (bD n b), s19, s20, s21, s22, s23, s24, s25, s26, s27, s28, s29, s30] := by
  have p2 := p2le hn
  refine comp_all (List.range (2 ^ n)) nD (fun p => .bl (a p || b p)) rfl (by simp; omega) (fun p hp => ⟨false, ?_⟩)
  have i1 := ixB a (show p < 2 ^ n by simpa using hp)
  have i2 := ixB b (show p < 2 ^ n by simpa using hp)
  generalize bD n a = x1 at i1 ⊢
  generalize bD n b = x2 at i2 ⊢
  cases ha : a p <;> rw [ha] at i1 <;> simp [i1, i2, exR, evR, lineOk, sizeLine_eq, ofX, ofF, noR, R.out, R.bind, R.of, with1, with2, withs, Bor.res, Bor.frz, ress, frzs, bl2, dat, Sl.get?, Sl.frz, mkSl, Out.res, Res.put, mkArgs, ioAt, doCall, putIos, nd0, nd1, ndl, ndc, nAdd, nSub, nMul, nDiv, nMod, nShl, nShr, nAnd, nXor, nPow, sAdd, lAdd, rAdd, tAdd, lMul, sMul, cEqN, cEqS, cEqB, cNeN, cNeS, cNeB, cLt, cLe, cGt, cGe, cIs, cIsN, isNonN, isNonS, isNonL, isNonR, isNonT, isNonB, isNon0, inS, ninS, tN, tB, tL, tT, tR, t0, bLenL, bLenT, bLenR, bLenS, bIntN, bMin, bMax, bSum, bLstL, bLstT, bTupL, bTupT, ixL, ixT, ixR, ixS, isiN, isiR, flatN, flatR, mutN, mutR, itR, itL, itT, itS, cNilR, cNilN, cNilL, cNilM, meTyJ, inR, ninR, flat0, flatB, flatI, flatS, flatF, flatL, flatT, flatD, mut0, mutB, mutI, mutS, mutF, mutL, mutT, mutD, isi0, isiB, isiI, isiS, isiL, isiT, isiDc, muOk, muTyR, muTyL, muAR, muAL, rMul, setR, bAbs]
theorem bne_dec (x y : Bool) : (!decide (x = y)) = (x != y) := by cases x <;> cases y <;> rfl
theorem g6 : (evR G call F51c6).f [s0, s1, s2, s3, .sh (plD n), s5, s6, s7, s8, s9, s10, s11, s12, s13, s14, s15, s16, .sh (bD n a), .sh (bD n b), s19, s20, s21, s22, s23, s24, s25, s26, s27, s28, s29, s30] = .ok (bD n (fun p => a p != b p), true) [s0, s1, s2, s3, .sh (plD n), s5, s6, s7, s8, s9, s10, s11, s12, s13, s14, s15, s16, .sh (bD n a), .sh (bD n b), s19, s20, s21, s22, s23, s24, s25, s26, s27, s28, s29, s30] := by
  have p2 := p2le hn
  refine comp_all (List.range (2 ^ n)) nD (fun p => .bl (a p != b p)) rfl (by simp; omega) (fun p hp => ⟨false, ?_⟩)
  have i1 := ixB a (show p < 2 ^ n by simpa using hp)
  have i2 := ixB b (show p < 2 ^ n by simpa using hp)
  generalize bD n a = x1 at i1 ⊢
  generalize bD n b = x2 at i2 ⊢
  cases ha : a p <;> cases hb : b p <;> rw [ha] at i1 <;> rw [hb] at i2 <;> simp [i1, i2, exR, evR, lineOk, sizeLine_eq, ofX, ofF, noR, R.out, R.bind, R.of, with1, with2, withs, Bor.res, Bor.frz, ress, frzs, bl2, dat, Sl.get?, Sl.frz, mkSl, Out.res, Res.put, mkArgs, ioAt, doCall, putIos, nd0, nd1, ndl, ndc, nAdd, nSub, nMul, nDiv, nMod, nShl, nShr, nAnd, nXor, nPow, sAdd, lAdd, rAdd, tAdd, lMul, sMul, cEqN, cEqS, cEqB, cNeN, cNeS, cNeB, cLt, cLe, cGt, cGe, cIs, cIsN, isNonN, isNonS, isNonL, isNonR, isNonT, isNonB, isNon0, inS, ninS, tN, tB, tL, tT, tR, t0, bLenL, bLenT, bLenR, bLenS, bIntN, bMin, bMax, bSum, bLstL, bLstT, bTupL, bTupT, ixL, ixT, ixR, ixS, isiN, isiR, flatN, flatR, mutN, mutR, itR, itL, itT, itS, cNilR, cNilN, cNilL, cNilM, meTyJ, inR, ninR, flat0, flatB, flatI, flatS, flatF, flatL, flatT, flatD, mut0, mutB, mutI, mutS, mutF, mutL, mutT, mutD, isi0, isiB, isiI, isiS, isiL, isiT, isiDc, muOk, muTyR, muTyL, muAR, muAL, rMul, setR, bAbs]
theorem g7 : (evR G call F51c7).f [s0, s1, s2, s3, .sh (plD n), s5, s6, s7, s8, s9, s10, s11, s12, s13, s14, s15, s16, .sh (bD n a), .sh (bD n b), .sh (bD n c), s20, s21, s22, s23, s24, s25, s26, s27, s28, s29, s30] = .ok (bD n (fun p => if a p = true then b p else c p), true) [s0, s1, s2, s3, .sh (plD n), s5, s6, s7, s8, s9, s10, s11, s12, s13, s14, s15, s16, .sh (bD n a), .sh (bD n b), .sh (bD n c), s20, s21, s22, s23, s24, s25, s26, s27, s28, s29, s30] := by
  have p2 := p2le hn
  refine comp_all (List.range (2 ^ n)) nD (fun p => .bl (if a p = true then b p else c p)) rfl (by simp; omega) (fun p hp => ⟨false, ?_⟩)
  have i1 := ixB a (show p < 2 ^ n by simpa using hp)
  have i2 := ixB b (show p < 2 ^ n by simpa using hp)
  have i3 := ixB c (show p < 2 ^ n by simpa using hp)
  generalize bD n a = x1 at i1 ⊢
  generalize bD n b = x2 at i2 ⊢
  generalize bD n c = x3 at i3 ⊢
  cases ha : a p <;> rw [ha] at i1 <;> simp [i1, i2, i3, exR, evR, lineOk, sizeLine_eq, ofX, ofF, noR, R.out, R.bind, R.of, with1, with2, withs, Bor.res, Bor.frz, ress, frzs, bl2, dat, Sl.get?, Sl.frz, mkSl, Out.res, Res.put, mkArgs, ioAt, doCall, putIos, nd0, nd1, ndl, ndc, nAdd, nSub, nMul, nDiv, nMod, nShl, nShr, nAnd, nXor, nPow, sAdd, lAdd, rAdd, tAdd, lMul, sMul, cEqN, cEqS, cEqB, cNeN, cNeS, cNeB, cLt, cLe, cGt, cGe, cIs, cIsN, isNonN, isNonS, isNonL, isNonR, isNonT, isNonB, isNon0, inS, ninS, tN, tB, tL, tT, tR, t0, bLenL, bLenT, bLenR, bLenS, bIntN, bMin, bMax, bSum, bLstL, bLstT, bTupL, bTupT, ixL, ixT, ixR, ixS, isiN, isiR, flatN, flatR, mutN, mutR, itR, itL, itT, itS, cNilR, cNilN, cNilL, cNilM, meTyJ, inR, ninR, flat0, flatB, flatI, flatS, flatF, flatL, flatT, flatD, mut0, mutB, mutI, mutS, mutF, mutL, mutT, mutD, isi0, isiB, isiI, isiS, isiL, isiT, isiDc, muOk, muTyR, muTyL, muAR, muAL, rMul, setR, bAbs]
theorem g8 : (evR G call F51c8).f [s0, s1, s2, s3, .sh (plD n), s5, s6, s7, s8, s9, s10, s11, s12, s13, s14, s15, s16, .sh (bD n a), .sh (bD n b), s19, s20, s21, s22, s23, s24, s25, s26, s27, s28, s29, s30] = .ok (rowsD (difL n a b), true) [s0, s1, s2, s3, .sh (plD n), s5, s6, s7, s8, s9, s10, s11, s12, s13, s14, s15, s16, .sh (bD n a), .sh (bD n b), s19, s20, s21, s22, s23, s24, s25, s26, s27, s28, s29, s30] := by
  have p2 := p2le hn
  refine comp_det (List.range (2 ^ n)) nD (fun p => a p != b p) nD rfl (by simp; omega) (fun p hp => ?_) (fun p _ _ => ⟨false, rfl⟩)
  have i1 := ixB a (show p < 2 ^ n by simpa using hp)
  have i2 := ixB b (show p < 2 ^ n by simpa using hp)
  generalize bD n a = x1 at i1 ⊢
  generalize bD n b = x2 at i2 ⊢
  cases ha : a p <;> cases hb : b p <;> rw [ha] at i1 <;> rw [hb] at i2 <;> simp [i1, i2, exR, evR, lineOk, sizeLine_eq, ofX, ofF, noR, R.out, R.bind, R.of, with1, with2, withs, Bor.res, Bor.frz, ress, frzs, bl2, dat, Sl.get?, Sl.frz, mkSl, Out.res, Res.put, mkArgs, ioAt, doCall, putIos, nd0, nd1, ndl, ndc, nAdd, nSub, nMul, nDiv, nMod, nShl, nShr, nAnd, nXor, nPow, sAdd, lAdd, rAdd, tAdd, lMul, sMul, cEqN, cEqS, cEqB, cNeN, cNeS, cNeB, cLt, cLe, cGt, cGe, cIs, cIsN, isNonN, isNonS, isNonL, isNonR, isNonT, isNonB, isNon0, inS, ninS, tN, tB, tL, tT, tR, t0, bLenL, bLenT, bLenR, bLenS, bIntN, bMin, bMax, bSum, bLstL, bLstT, bTupL, bTupT, ixL, ixT, ixR, ixS, isiN, isiR, flatN, flatR, mutN, mutR, itR, itL, itT, itS, cNilR, cNilN, cNilL, cNilM, meTyJ, inR, ninR, flat0, flatB, flatI, flatS, flatF, flatL, flatT, flatD, mut0, mutB, mutI, mutS, mutF, mutL, mutT, mutD, isi0, isiB, isiI, isiS, isiL, isiT, isiDc, muOk, muTyR, muTyL, muAR, muAL, rMul, setR, bAbs]
theorem g9 : (evR G call F51c9).f [s0, s1, s2, s3, .sh (plD n), s5, s6, s7, s8, s9, s10, s11, s12, s13, s14, s15, s16, .sh (bD n a), .sh (bD n b), s19, s20, s21, s22, s23, s24, s25, s26, s27, s28, s29, s30] = .ok (rowsD ((List.range (2 ^ n)).filter fun p => a p && !b p), true) [s0, s1, s2, s3, .sh (plD n), s5, s6, s7, s8, s9, s10, s11, s12, s13, s14, s15, s16, .sh (bD n a), .sh (bD n b), s19, s20, s21, s22, s23, s24, s25, s26, s27, s28, s29, s30] := by
  have p2 := p2le hn
  refine comp_det (List.range (2 ^ n)) nD (fun p => a p && !b p) nD rfl (by simp; omega) (fun p hp => ?_) (fun p _ _ => ⟨false, rfl⟩)
  have i1 := ixB a (show p < 2 ^ n by simpa using hp)
  have i2 := ixB b (show p < 2 ^ n by simpa using hp)
  generalize bD n a = x1 at i1 ⊢
  generalize bD n b = x2 at i2 ⊢
  cases ha : a p <;> rw [ha] at i1 <;> simp [i1, i2, exR, evR, lineOk, sizeLine_eq, ofX, ofF, noR, R.out, R.bind, R.of, with1, with2, withs, Bor.res, Bor.frz, ress, frzs, bl2, dat, Sl.get?, Sl.frz, mkSl, Out.res, Res.put, mkArgs, ioAt, doCall, putIos, nd0, nd1, ndl, ndc, nAdd, nSub, nMul, nDiv, nMod, nShl, nShr, nAnd, nXor, nPow, sAdd, lAdd, rAdd, tAdd, lMul, sMul, cEqN, cEqS, cEqB, cNeN, cNeS, cNeB, cLt, cLe, cGt, cGe, cIs, cIsN, isNonN, isNonS, isNonL, isNonR, isNonT, isNonB, isNon0, inS, ninS, tN, tB, tL, tT, tR, t0, bLenL, bLenT, bLenR, bLenS, bIntN, bMin, bMax, bSum, bLstL, bLstT, bTupL, bTupT, ixL, ixT, ixR, ixS, isiN, isiR, flatN, flatR, mutN, mutR, itR, itL, itT, itS, cNilR, cNilN, cNilL, cNilM, meTyJ, inR, ninR, flat0, flatB, flatI, flatS, flatF, flatL, flatT, flatD, mut0, mutB, mutI, mutS, mutF, mutL, mutT, mutD, isi0, isiB, isiI, isiS, isiL, isiT, isiDc, muOk, muTyR, muTyL, muAR, muAL, rMul, setR, bAbs]
theorem g10 : (evR G call F51c10).f [s0, s1, s2, s3, .sh (plD n), s5, s6, s7, s8, s9, s10, s11, s12, s13, s14, s15, s16, .sh (bD n a), s18, s19, s20, s21, s22, s23, s24, s25, s26, s27, s28, s29, s30] = .ok (rowsD ((List.range (2 ^ n)).filter a), true) [s0, s1, s2, s3, .sh (plD n), s5, s6, s7, s8, s9, s10, s11, s12, s13, s14, s15, s16, .sh (bD n a), s18, s19, s20, s21, s22, s23, s24, s25, s26, s27, s28, s29, s30] := by
  have p2 := p2le hn
  refine comp_det (List.range (2 ^ n)) nD a nD rfl (by simp; omega) (fun p hp => ?_) (fun p _ _ => ⟨false, rfl⟩)
  have i1 := ixB a (show p < 2 ^ n by simpa using hp)
  generalize bD n a = x1 at i1 ⊢
  simp [i1, exR, evR, lineOk, sizeLine_eq, ofX, ofF, noR, R.out, R.bind, R.of, with1, with2, withs, Bor.res, Bor.frz, ress, frzs, bl2, dat, Sl.get?, Sl.frz, mkSl, Out.res, Res.put, mkArgs, ioAt, doCall, putIos, nd0, nd1, ndl, ndc, nAdd, nSub, nMul, nDiv, nMod, nShl, nShr, nAnd, nXor, nPow, sAdd, lAdd, rAdd, tAdd, lMul, sMul, cEqN, cEqS, cEqB, cNeN, cNeS, cNeB, cLt, cLe, cGt, cGe, cIs, cIsN, isNonN, isNonS, isNonL, isNonR, isNonT, isNonB, isNon0, inS, ninS, tN, tB, tL, tT, tR, t0, bLenL, bLenT, bLenR, bLenS, bIntN, bMin, bMax, bSum, bLstL, bLstT, bTupL, bTupT, ixL, ixT, ixR, ixS, isiN, isiR, flatN, flatR, mutN, mutR, itR, itL, itT, itS, cNilR, cNilN, cNilL, cNilM, meTyJ, inR, ninR, flat0, flatB, flatI, flatS, flatF, flatL, flatT, flatD, mut0, mutB, mutI, mutS, mutF, mutL, mutT, mutD, isi0, isiB, isiI, isiS, isiL, isiT, isiDc, muOk, muTyR, muTyL, muAR, muAL, rMul, setR, bAbs]
theorem g13 : (evR G call F51c13).f [s0, s1, s2, s3, .sh (plD n), s5, s6, s7, s8, s9, s10, s11, s12, s13, s14, s15, s16, s17, s18, s19, s20, s21, s22, s23, .sh (.str (tx n a)), .sh (.str (tx n b)), s26, s27, s28, s29, s30] = .ok (bD n (fun p => a p || b p), true) [s0, s1, s2, s3, .sh (plD n), s5, s6, s7, s8, s9, s10, s11, s12, s13, s14, s15, s16, s17, s18, s19, s20, s21, s22, s23, .sh (.str (tx n a)), .sh (.str (tx n b)), s26, s27, s28, s29, s30] := by
  have p2 := p2le hn
  refine comp_all (List.range (2 ^ n)) nD (fun p => .bl (a p || b p)) rfl (by simp; omega) (fun p hp => ⟨false, ?_⟩)
  have i1 := ixTx a hn (show p < 2 ^ n by simpa using hp)
  have i2 := ixTx b hn (show p < 2 ^ n by simpa using hp)
  generalize tx n a = x1 at i1 ⊢
  generalize tx n b = x2 at i2 ⊢
  cases ha : a p <;> cases hb : b p <;> rw [ha] at i1 <;> rw [hb] at i2 <;> simp [i1, i2, ch, exR, evR, lineOk, sizeLine_eq, ofX, ofF, noR, R.out, R.bind, R.of, with1, with2, withs, Bor.res, Bor.frz, ress, frzs, bl2, dat, Sl.get?, Sl.frz, mkSl, Out.res, Res.put, mkArgs, ioAt, doCall, putIos, nd0, nd1, ndl, ndc, nAdd, nSub, nMul, nDiv, nMod, nShl, nShr, nAnd, nXor, nPow, sAdd, lAdd, rAdd, tAdd, lMul, sMul, cEqN, cEqS, cEqB, cNeN, cNeS, cNeB, cLt, cLe, cGt, cGe, cIs, cIsN, isNonN, isNonS, isNonL, isNonR, isNonT, isNonB, isNon0, inS, ninS, tN, tB, tL, tT, tR, t0, bLenL, bLenT, bLenR, bLenS, bIntN, bMin, bMax, bSum, bLstL, bLstT, bTupL, bTupT, ixL, ixT, ixR, ixS, isiN, isiR, flatN, flatR, mutN, mutR, itR, itL, itT, itS, cNilR, cNilN, cNilL, cNilM, meTyJ, inR, ninR, flat0, flatB, flatI, flatS, flatF, flatL, flatT, flatD, mut0, mutB, mutI, mutS, mutF, mutL, mutT, mutD, isi0, isiB, isiI, isiS, isiL, isiT, isiDc, muOk, muTyR, muTyL, muAR, muAL, rMul, setR, bAbs]
theorem g14 : (evR G call F51c14).f [s0, s1, s2, s3, .sh (plD n), s5, s6, s7, s8, s9, s10, s11, s12, s13, s14, s15, s16, s17, s18, s19, s20, s21, s22, s23, .sh (.str (tx n a)), .sh (.str (tx n b)), s26, s27, s28, s29, s30] = .ok (bD n (fun p => a p && b p), true) [s0, s1, s2, s3, .sh (plD n), s5, s6, s7, s8, s9, s10, s11, s12, s13, s14, s15, s16, s17, s18, s19, s20, s21, s22, s23, .sh (.str (tx n a)), .sh (.str (tx n b)), s26, s27, s28, s29, s30] := by
  have p2 := p2le hn
  refine comp_all (List.range (2 ^ n)) nD (fun p => .bl (a p && b p)) rfl (by simp; omega) (fun p hp => ⟨false, ?_⟩)
  have i1 := ixTx a hn (show p < 2 ^ n by simpa using hp)
  have i2 := ixTx b hn (show p < 2 ^ n by simpa using hp)
  generalize tx n a = x1 at i1 ⊢
  generalize tx n b = x2 at i2 ⊢
  cases ha : a p <;> cases hb : b p <;> rw [ha] at i1 <;> rw [hb] at i2 <;> simp [i1, i2, ch, exR, evR, lineOk, sizeLine_eq, ofX, ofF, noR, R.out, R.bind, R.of, with1, with2, withs, Bor.res, Bor.frz, ress, frzs, bl2, dat, Sl.get?, Sl.frz, mkSl, Out.res, Res.put, mkArgs, ioAt, doCall, putIos, nd0, nd1, ndl, ndc, nAdd, nSub, nMul, nDiv, nMod, nShl, nShr, nAnd, nXor, nPow, sAdd, lAdd, rAdd, tAdd, lMul, sMul, cEqN, cEqS, cEqB, cNeN, cNeS, cNeB, cLt, cLe, cGt, cGe, cIs, cIsN, isNonN, isNonS, isNonL, isNonR, isNonT, isNonB, isNon0, inS, ninS, tN, tB, tL, tT, tR, t0, bLenL, bLenT, bLenR, bLenS, bIntN, bMin, bMax, bSum, bLstL, bLstT, bTupL, bTupT, ixL, ixT, ixR, ixS, isiN, isiR, flatN, flatR, mutN, mutR, itR, itL, itT, itS, cNilR, cNilN, cNilL, cNilM, meTyJ, inR, ninR, flat0, flatB, flatI, flatS, flatF, flatL, flatT, flatD, mut0, mutB, mutI, mutS, mutF, mutL, mutT, mutD, isi0, isiB, isiI, isiS, isiL, isiT, isiDc, muOk, muTyR, muTyL, muAR, muAL, rMul, setR, bAbs]
theorem g15 : (evR G call F51c15).f [s0, s1, s2, s3, .sh (plD n), s5, s6, s7, s8, s9, s10, s11, s12, s13, s14, s15, s16, s17, s18, s19, s20, s21, s22, s23, .sh (.str (tx n a)), .sh (.str (tx n b)), s26, s27, s28, s29, s30] = .ok (bD n (fun p => a p != b p), true) [s0, s1, s2, s3, .sh (plD n), s5, s6, s7, s8, s9, s10, s11, s12, s13, s14, s15, s16, s17, s18, s19, s20, s21, s22, s23, .sh (.str (tx n a)), .sh (.str (tx n b)), s26, s27, s28, s29, s30] := by
  have p2 := p2le hn
  refine comp_all (List.range (2 ^ n)) nD (fun p => .bl (a p != b p)) rfl (by simp; omega) (fun p hp => ⟨false, ?_⟩)
  have i1 := ixTx a hn (show p < 2 ^ n by simpa using hp)
  have i2 := ixTx b hn (show p < 2 ^ n by simpa using hp)
  generalize tx n a = x1 at i1 ⊢
  generalize tx n b = x2 at i2 ⊢
  cases ha : a p <;> cases hb : b p <;> rw [ha] at i1 <;> rw [hb] at i2 <;> simp [i1, i2, ch, exR, evR, lineOk, sizeLine_eq, ofX, ofF, noR, R.out, R.bind, R.of, with1, with2, withs, Bor.res, Bor.frz, ress, frzs, bl2, dat, Sl.get?, Sl.frz, mkSl, Out.res, Res.put, mkArgs, ioAt, doCall, putIos, nd0, nd1, ndl, ndc, nAdd, nSub, nMul, nDiv, nMod, nShl, nShr, nAnd, nXor, nPow, sAdd, lAdd, rAdd, tAdd, lMul, sMul, cEqN, cEqS, cEqB, cNeN, cNeS, cNeB, cLt, cLe, cGt, cGe, cIs, cIsN, isNonN, isNonS, isNonL, isNonR, isNonT, isNonB, isNon0, inS, ninS, tN, tB, tL, tT, tR, t0, bLenL, bLenT, bLenR, bLenS, bIntN, bMin, bMax, bSum, bLstL, bLstT, bTupL, bTupT, ixL, ixT, ixR, ixS, isiN, isiR, flatN, flatR, mutN, mutR, itR, itL, itT, itS, cNilR, cNilN, cNilL, cNilM, meTyJ, inR, ninR, flat0, flatB, flatI, flatS, flatF, flatL, flatT, flatD, mut0, mutB, mutI, mutS, mutF, mutL, mutT, mutD, isi0, isiB, isiI, isiS, isiL, isiT, isiDc, muOk, muTyR, muTyL, muAR, muAL, rMul, setR, bAbs]
end
section
variable (k : Nat) (hk : 2 ≤ k) {n : Nat} (hn : n ≤ 10) (a : Nat → Bool)
include hk hn
theorem g11 (j : Nat) : (evR G (fnEval G k) F51c11).f [s0, s1, s2, s3, .sh (plD n), s5, s6, s7, s8, s9, s10, s11, s12, s13, s14, s15, s16, s17, s18, s19, s20, s21, .sh (nD j), s23, s24, s25, s26, s27, s28, s29, s30] = .ok (bD n (fun q => decide (q / 2 ^ j % 2 = 1)), true) [s0, s1, s2, s3, .sh (plD n), s5, s6, s7, s8, s9, s10, s11, s12, s13, s14, s15, s16, s17, s18, s19, s20, s21, .sh (nD j), s23, s24, s25, s26, s27, s28, s29, s30] := by
  have p2 := p2le hn
  refine comp_all (List.range (2 ^ n)) nD (fun q => .bl (decide (q / 2 ^ j % 2 = 1))) rfl (by simp; omega) (fun q hq => ⟨false, ?_⟩)
  have w := lbit k q j (by omega)
  simp [w, exR, evR, lineOk, sizeLine_eq, ofX, ofF, noR, R.out, R.bind, R.of, with1, with2, withs, Bor.res, Bor.frz, ress, frzs, bl2, dat, Sl.get?, Sl.frz, mkSl, Out.res, Res.put, mkArgs, ioAt, doCall, putIos, nd0, nd1, ndl, ndc, nAdd, nSub, nMul, nDiv, nMod, nShl, nShr, nAnd, nXor, nPow, sAdd, lAdd, rAdd, tAdd, lMul, sMul, cEqN, cEqS, cEqB, cNeN, cNeS, cNeB, cLt, cLe, cGt, cGe, cIs, cIsN, isNonN, isNonS, isNonL, isNonR, isNonT, isNonB, isNon0, inS, ninS, tN, tB, tL, tT, tR, t0, bLenL, bLenT, bLenR, bLenS, bIntN, bMin, bMax, bSum, bLstL, bLstT, bTupL, bTupT, ixL, ixT, ixR, ixS, isiN, isiR, flatN, flatR, mutN, mutR, itR, itL, itT, itS, cNilR, cNilN, cNilL, cNilM, meTyJ, inR, ninR, flat0, flatB, flatI, flatS, flatF, flatL, flatT, flatD, mut0, mutB, mutI, mutS, mutF, mutL, mutT, mutD, isi0, isiB, isiI, isiS, isiL, isiT, isiDc, muOk, muTyR, muTyL, muAR, muAL, rMul, setR, bAbs]
theorem g12 (j v : Nat) : (evR G (fnEval G k) F51c12).f [s0, s1, s2, s3, .sh (plD n), s5, s6, s7, s8, s9, s10, s11, s12, s13, .sh (fD n a), s15, s16, s17, s18, s19, s20, s21, .sh (nD j), .sh (nD v), s24, s25, s26, s27, s28, s29, s30] = .ok (.lst (((List.range (2 ^ n)).filter fun p => decide (p / 2 ^ j % 2 = v)).map fun p => .str [ch (a p)]), true) [s0, s1, s2, s3, .sh (plD n), s5, s6, s7, s8, s9, s10, s11, s12, s13, .sh (fD n a), s15, s16, s17, s18, s19, s20, s21, .sh (nD j), .sh (nD v), s24, s25, s26, s27, s28, s29, s30] := by
  have p2 := p2le hn
  refine comp_det (List.range (2 ^ n)) nD (fun p => decide (p / 2 ^ j % 2 = v)) (fun p => .str [ch (a p)]) rfl (by simp; omega) (fun q hq => ?_) (fun q hq _ => ⟨false, ?_⟩)
  · have w := lbit k q j (by omega)
    simp [w, exR, evR, lineOk, sizeLine_eq, ofX, ofF, noR, R.out, R.bind, R.of, with1, with2, withs, Bor.res, Bor.frz, ress, frzs, bl2, dat, Sl.get?, Sl.frz, mkSl, Out.res, Res.put, mkArgs, ioAt, doCall, putIos, nd0, nd1, ndl, ndc, nAdd, nSub, nMul, nDiv, nMod, nShl, nShr, nAnd, nXor, nPow, sAdd, lAdd, rAdd, tAdd, lMul, sMul, cEqN, cEqS, cEqB, cNeN, cNeS, cNeB, cLt, cLe, cGt, cGe, cIs, cIsN, isNonN, isNonS, isNonL, isNonR, isNonT, isNonB, isNon0, inS, ninS, tN, tB, tL, tT, tR, t0, bLenL, bLenT, bLenR, bLenS, bIntN, bMin, bMax, bSum, bLstL, bLstT, bTupL, bTupT, ixL, ixT, ixR, ixS, isiN, isiR, flatN, flatR, mutN, mutR, itR, itL, itT, itS, cNilR, cNilN, cNilL, cNilM, meTyJ, inR, ninR, flat0, flatB, flatI, flatS, flatF, flatL, flatT, flatD, mut0, mutB, mutI, mutS, mutF, mutL, mutT, mutD, isi0, isiB, isiI, isiS, isiL, isiT, isiDc, muOk, muTyR, muTyL, muAR, muAL, rMul, setR, bAbs]
  · have i := ixTx a hn (show q < 2 ^ n by simpa using hq)
    have i1 := ixF1 n a
    generalize fD n a = fa at i1 ⊢
    simp [i, i1, exR, evR, lineOk, sizeLine_eq, ofX, ofF, noR, R.out, R.bind, R.of, with1, with2, withs, Bor.res, Bor.frz, ress, frzs, bl2, dat, Sl.get?, Sl.frz, mkSl, Out.res, Res.put, mkArgs, ioAt, doCall, putIos, nd0, nd1, ndl, ndc, nAdd, nSub, nMul, nDiv, nMod, nShl, nShr, nAnd, nXor, nPow, sAdd, lAdd, rAdd, tAdd, lMul, sMul, cEqN, cEqS, cEqB, cNeN, cNeS, cNeB, cLt, cLe, cGt, cGe, cIs, cIsN, isNonN, isNonS, isNonL, isNonR, isNonT, isNonB, isNon0, inS, ninS, tN, tB, tL, tT, tR, t0, bLenL, bLenT, bLenR, bLenS, bIntN, bMin, bMax, bSum, bLstL, bLstT, bTupL, bTupT, ixL, ixT, ixR, ixS, isiN, isiR, flatN, flatR, mutN, mutR, itR, itL, itT, itS, cNilR, cNilN, cNilL, cNilM, meTyJ, inR, ninR, flat0, flatB, flatI, flatS, flatF, flatL, flatT, flatD, mut0, mutB, mutI, mutS, mutF, mutL, mutT, mutD, isi0, isiB, isiI, isiS, isiL, isiT, isiDc, muOk, muTyR, muTyL, muAR, muAL, rMul, setR, bAbs]
end
end K00
namespace EV
open PySem
/-- a comprehension, told by what it has gathered -/
theorem comp_acc {vs : List Nat} {tg : Tg} {test : Ev → R Bool} {elt : Ev → R (D × Bool)} (J : Nat → List D → Ev → Prop) : ∀ (ds acc : List D) (i : Nat) (e : Ev), acc.length + ds.length ≤ sizeLine → J i acc e →
    (∀ j d acc e, ds[j]? = some d → J (i + j) acc e → ∃ e1, tgD tg d (wipeE e vs) = some e1 ∧ ((∃ e2, test e1 = .ok false e2 ∧ J (i + j + 1) acc e2) ∨ ∃ e2 y e3, test e1 = .ok true e2 ∧ elt e2 = .ok y e3 ∧ J (i + j + 1) (acc ++ [y.1]) e3)) →
    ∃ ys e', compL vs tg test elt ds acc e = .ok ys (wipeE e' vs) ∧ J (i + ds.length) ys e'
  | [], acc, i, e, _, hJ, _ => ⟨acc, e, by simp [compL], hJ⟩
  | d :: ds, acc, i, e, hl, hJ, st => by
    rw [List.length_cons] at hl
    have rest : ∀ j d' acc' e', ds[j]? = some d' → J (i + 1 + j) acc' e' → ∃ e1, tgD tg d' (wipeE e' vs) = some e1 ∧ ((∃ e2, test e1 = .ok false e2 ∧ J (i + 1 + j + 1) acc' e2) ∨ ∃ e2 y e3, test e1 = .ok true e2 ∧ elt e2 = .ok y e3 ∧ J (i + 1 + j + 1) (acc' ++ [y.1]) e3) := fun j d' acc' e' hj hJ' => by
      have := st (j + 1) d' acc' e' (by simpa using hj) (by rw [show i + (j + 1) = i + 1 + j by omega]; exact hJ')
      rw [show i + (j + 1) + 1 = i + 1 + j + 1 by omega] at this
      exact this
    obtain ⟨e1, h1, h2⟩ := st 0 d acc e rfl hJ
    unfold compL
    rw [h1]
    simp only
    rcases h2 with ⟨e2, h2, h3⟩ | ⟨e2, y, e3, h2, h3, h4⟩
    · rw [h2]
      obtain ⟨ys, e', k1, k2⟩ := comp_acc J ds acc (i + 1) e2 (by omega) h3 rest
      exact ⟨ys, e', k1, by rw [List.length_cons, show i + (ds.length + 1) = i + 1 + ds.length by omega]; exact k2⟩
    · rw [h2]
      simp only [h3]
      obtain ⟨ys, e', k1, k2⟩ := comp_acc J ds (acc ++ [y.1]) (i + 1) e3 (by rw [List.length_append]; simp; omega) h4 rest
      refine ⟨ys, e', ?_, by rw [List.length_cons, show i + (ds.length + 1) = i + 1 + ds.length by omega]; exact k2⟩
      rw [if_pos (by simp; omega)]
      exact k1
theorem lawfun_call {G : Cfg} {m d f : Nat} {nm : Str} {N : List Str} (hm : G.fns[m]? = some fMixed) (hd : G.fns[d]? = some (fDraw2 m)) (hf : G.fns[f]? = some ⟨nm, 2, N, [true, false], bLawFun d⟩) (hN : N.length = 11) (k : Nat) (i : Nat) (l : List Nat) (at_ n : Nat) (hs : small l) (hl : l.length ≤ 4000) (ha : at_ ≤ 100000) (hn : n ≤ 10) (h : 3 ≤ k) (a : SE) (e : Ev)
    (ha2 : (evR G (fnEval G k) a).b e = .ok (.dat (nD n)) e) (hi : e.getD i .no = .ow (drD l at_)) :
    ∃ (b : Nat → Bool) (a' : Nat), a' ≤ at_ + 2 ^ n + n + 10 ∧ (evR G (fnEval G k) (.call f (.cons (.var i) (.cons a .nil)))).f e = .ok (fD n b, false) (e.set i (.ow (drD l a'))) := by
  obtain ⟨b, a', e2, hv, h1, h2⟩ := lawfun_ok hm hd hf hN k l at_ n hs hl ha hn h
  refine ⟨b, a', hv, ?_⟩
  have hb : (evR G (fnEval G k) (.cons (.var i) (.cons a .nil))).bs e = .ok [.slot i, .dat (nD n)] e := cons_bs (by
    show (match e.getD i .no with
      | .no => R.st
      | .sh d => R.ok (Bor.dat d) e
      | .ow _ => R.ok (Bor.slot i) e) = _
    rw [hi]) (cons_bs ha2 nil_bs)
  rw [call_f hb]
  show (match G.fns[f]? with
    | some fi => if fi.np = [Bor.slot i, Bor.dat (nD n)].length then doCall (fnEval G k) fi.io f [.slot i, .dat (nD n)] e else .st
    | none => .st) = _
  rw [hf]
  show doCall (fnEval G k) [true, false] f [.slot i, .dat (nD n)] e = _
  have hm : mkArgs e [true, false] [.slot i, .dat (nD n)] = some ([.ow (drD l at_), .sh (nD n)], e.set i .no) := by
    simp only [mkArgs, hi, Bor.res, Bor.frz, Option.map_some]
  unfold doCall
  rw [hm]
  simp only [h1]
  show (if (fD n b).flat && !([true, false].any id) then _ else _) = _
  rw [if_neg (by simp)]
  show R.ok (fD n b, false) ((e.set i .no).set i (e2.getD 0 .no)) = _
  rw [h2, List.set_set]
end EV
namespace K00
open PySem EV
variable (s0 s1 s2 s3 s4 s5 s6 s7 s8 s9 s10 s11 s12 s13 s14 s15 s16 s17 s18 s19 s20 s21 s22 s23 s24 s25 s26 s27 s28 s29 s30 : Sl)
theorem fcall (k : Nat) (i : Nat) (l : List Nat) (at_ n : Nat) (hs : small l) (hl : l.length ≤ 4000) (ha : at_ ≤ 100000) (hn : n ≤ 10) (h : 3 ≤ k) (a : SE) (e : Ev) (ha2 : (evR G (fnEval G k) a).b e = .ok (.dat (nD n)) e) (hi : e.getD i .no = .ow (drD l at_)) :
    ∃ (b : Nat → Bool) (a' : Nat), a' ≤ at_ + 2 ^ n + n + 10 ∧ (evR G (fnEval G k) (.call 46 (.cons (.var i) (.cons a .nil)))).f e = .ok (fD n b, false) (e.set i (.ow (drD l a'))) := lawfun_call n41 n43 n46 rfl k i l at_ n hs hl ha hn h a e ha2 hi
theorem dcall (k : Nat) (i : Nat) (l : List Nat) (at_ q : Nat) (hs : small l) (hl : l.length ≤ 4000) (ha : at_ < 1000000) (hq : 0 < q) (h : 2 ≤ k) (a : SE) (e : Ev) (ha2 : (evR G (fnEval G k) a).b e = .ok (.dat (nD q)) e) (hi : e.getD i .no = .ow (drD l at_)) :
    ∃ v : Nat, v < q ∧ (evR G (fnEval G k) (.call 43 (.cons (.var i) (.cons a .nil)))).f e = .ok (nD v, false) (e.set i (.ow (drD l (at_ + 1)))) := draw2_call n41 n43 k i l at_ q hs hl ha hq h a e ha2 hi
/-- pairs drawn -/
theorem g16 (k : Nat) (hk : 3 ≤ k) {n : Nat} (hn : n ≤ 10) (l : List Nat) (at_ : Nat) (hs : small l) (hl : l.length ≤ 4000) (ha : at_ ≤ 100000) : ∃ (ps : List (Nat × Nat)) (a' : Nat), OkP n ps ∧ a' ≤ at_ + 2 * n ∧ (evR G (fnEval G k) F51c16).f [s0, .ow (drD l at_), .sh (nD n), s3, s4, s5, s6, s7, s8, s9, s10, s11, s12, s13, s14, s15, s16, s17, s18, s19, s20, s21, s22, s23, s24, s25, s26, s27, s28, s29, s30] = .ok (pD ps, true) [s0, .ow (drD l a'), .sh (nD n), s3, s4, s5, s6, s7, s8, s9, s10, s11, s12, s13, s14, s15, s16, s17, s18, s19, s20, s21, s22, s23, s24, s25, s26, s27, s28, s29, s30] := by
  obtain ⟨ys, e', k1, ps, a', x, e1, e2, q1, q2, q3, q4⟩ := comp_acc (vs := [28]) (tg := .nm 28) (test := (evR G (fnEval G k) (.cmp .Eq (.call 43 (.cons (.var 1) (.cons (.lit (.int 2)) .nil))) (.lit (.int 0)))).t) (elt := (evR G (fnEval G k) (.tup (.cons (.var 28) (.cons (.call 43 (.cons (.var 1) (.cons (.lit (.int 2)) .nil))) .nil)))).f)
    (fun i acc e => ∃ (ps : List (Nat × Nat)) (a' : Nat) (x : Sl), acc = ps.map (fun z => .tup [nD z.1, nD z.2]) ∧ e = [s0, .ow (drD l a'), .sh (nD n), s3, s4, s5, s6, s7, s8, s9, s10, s11, s12, s13, s14, s15, s16, s17, s18, s19, s20, s21, s22, s23, s24, s25, s26, s27, x, s29, s30] ∧ (∀ z ∈ ps, z.1 < i ∧ z.2 ≤ 1) ∧ (ps.map (·.1)).Pairwise (· < ·) ∧ ps.length ≤ i ∧ a' ≤ at_ + 2 * i) (rngL 0 n) [] 0 [s0, .ow (drD l at_), .sh (nD n), s3, s4, s5, s6, s7, s8, s9, s10, s11, s12, s13, s14, s15, s16, s17, s18, s19, s20, s21, s22, s23, s24, s25, s26, s27, s28, s29, s30] (by rw [rng_len, sizeLine_eq]; simp; omega) ⟨[], at_, _, rfl, rfl, (fun z hz => nomatch hz), .nil, Nat.zero_le _, by omega⟩ fun j d acc e hd ⟨ps, a', x, e1, e2, q1, q2, q3, q4⟩ => by
      subst e1 e2
      rw [Nat.zero_add] at q1 q3 q4 ⊢
      have hlt : j < n := by
        have := (List.getElem?_eq_some_iff.mp hd).1
        rwa [rng_len] at this
      rw [rng_at hlt] at hd
      have hdd : d = nD j := by simpa [nD] using hd.symm
      subst hdd
      refine ⟨[s0, .ow (drD l a'), .sh (nD n), s3, s4, s5, s6, s7, s8, s9, s10, s11, s12, s13, s14, s15, s16, s17, s18, s19, s20, s21, s22, s23, s24, s25, s26, s27, .sh (nD j), s29, s30], rfl, ?_⟩
      obtain ⟨v, hv, g⟩ := dcall k 1 l a' 2 hs hl (by omega) (by decide) (by omega) (.lit (.int 2)) [s0, .ow (drD l a'), .sh (nD n), s3, s4, s5, s6, s7, s8, s9, s10, s11, s12, s13, s14, s15, s16, s17, s18, s19, s20, s21, s22, s23, s24, s25, s26, s27, .sh (nD j), s29, s30] rfl rfl
      have gb := call_b g
      have ht : (evR G (fnEval G k) (.cmp .Eq (.call 43 (.cons (.var 1) (.cons (.lit (.int 2)) .nil))) (.lit (.int 0)))).t [s0, .ow (drD l a'), .sh (nD n), s3, s4, s5, s6, s7, s8, s9, s10, s11, s12, s13, s14, s15, s16, s17, s18, s19, s20, s21, s22, s23, s24, s25, s26, s27, .sh (nD j), s29, s30] = .ok (decide (v = 0)) [s0, .ow (drD l (a' + 1)), .sh (nD n), s3, s4, s5, s6, s7, s8, s9, s10, s11, s12, s13, s14, s15, s16, s17, s18, s19, s20, s21, s22, s23, s24, s25, s26, s27, .sh (nD j), s29, s30] := by
        show (with2 (evR G (fnEval G k) (.call 43 (.cons (.var 1) (.cons (.lit (.int 2)) .nil)))) (evR G (fnEval G k) (.lit (.int 0))) _ (fun d d' e2 => bl2 (cmpD .Eq d d') e2)).bind _ = _
        unfold with2
        rw [gb]
        show (bl2 (cmpD .Eq (nD v) (nD 0)) _).bind _ = _
        rw [cEqN]
        rfl
      by_cases hz : v = 0
      · obtain ⟨w, hw, g2⟩ := dcall k 1 l (a' + 1) 2 hs hl (by omega) (by decide) (by omega) (.lit (.int 2)) [s0, .ow (drD l (a' + 1)), .sh (nD n), s3, s4, s5, s6, s7, s8, s9, s10, s11, s12, s13, s14, s15, s16, s17, s18, s19, s20, s21, s22, s23, s24, s25, s26, s27, .sh (nD j), s29, s30] rfl rfl
        rw [decide_eq_true hz] at ht
        refine .inr ⟨_, (.tup [nD j, nD w], false), [s0, .ow (drD l (a' + 1 + 1)), .sh (nD n), s3, s4, s5, s6, s7, s8, s9, s10, s11, s12, s13, s14, s15, s16, s17, s18, s19, s20, s21, s22, s23, s24, s25, s26, s27, .sh (nD j), s29, s30], ht, tup_f (cons_bs (b := .dat (nD j)) rfl (cons_bs (call_b g2) nil_bs)) rfl (by simp [sizeLine_eq]), ps ++ [(j, w)], a' + 1 + 1, .sh (nD j), by simp, rfl, fun z hz => ?_, ?_, by simp; omega, by omega⟩
        · rcases List.mem_append.mp hz with hz | hz
          · have := q1 z hz
            omega
          · have : z = (j, w) := by simpa using hz
            subst this
            exact ⟨by omega, by omega⟩
        · rw [List.map_append, List.pairwise_append]
          refine ⟨q2, by simp, fun x hx y hy => ?_⟩
          obtain ⟨z, hz, rfl⟩ := List.mem_map.mp hx
          have : y = j := by simpa using hy
          subst this
          exact (q1 z hz).1
      · rw [decide_eq_false hz] at ht
        exact .inl ⟨_, ht, ps, a' + 1, .sh (nD j), rfl, rfl, fun z hz => by have := q1 z hz; omega, q2, by omega, by omega⟩
  subst e1 e2
  rw [rng_len, Nat.zero_add] at q1 q3 q4
  refine ⟨ps, a', ⟨q1, q2, by omega⟩, q4, ?_⟩
  exact comp_ok (G := G) (call := fnEval G k) (own := [("j", 28)]) (it := .rng1 (.var 2)) (e := [s0, .ow (drD l at_), .sh (nD n), s3, s4, s5, s6, s7, s8, s9, s10, s11, s12, s13, s14, s15, s16, s17, s18, s19, s20, s21, s22, s23, s24, s25, s26, s27, s28, s29, s30]) (e1 := [s0, .ow (drD l at_), .sh (nD n), s3, s4, s5, s6, s7, s8, s9, s10, s11, s12, s13, s14, s15, s16, s17, s18, s19, s20, s21, s22, s23, s24, s25, s26, s27, s28, s29, s30]) (by
    rw [rng1_i (n := n) (fr := false) rfl (by omega), rng_range]) k1 rfl
/-- rows drawn -/
theorem g17 (k : Nat) (hk : 3 ≤ k) {n m : Nat} (hn : n ≤ 10) (hm : m ≤ 10) (l : List Nat) (at_ : Nat) (hs : small l) (hl : l.length ≤ 4000) (ha : at_ ≤ 50000) : ∃ (Rw : Nat → Nat → Bool) (a' : Nat), a' ≤ at_ + 1044 * n ∧ (evR G (fnEval G k) F51c17).f [s0, .ow (drD l at_), .sh (nD n), s3, s4, s5, s6, s7, s8, .sh (nD m), s10, s11, s12, s13, s14, s15, s16, s17, s18, s19, s20, s21, s22, s23, s24, s25, s26, s27, s28, s29, s30] = .ok (rowsF m n Rw, true) [s0, .ow (drD l a'), .sh (nD n), s3, s4, s5, s6, s7, s8, .sh (nD m), s10, s11, s12, s13, s14, s15, s16, s17, s18, s19, s20, s21, s22, s23, s24, s25, s26, s27, s28, s29, s30] := by
  have q2 := p2le hm
  obtain ⟨ys, e', k1, fs, a', x, e1, e2, r1, r2⟩ := comp_acc (vs := [28]) (tg := .nm 28) (test := (evR G (fnEval G k) .nop).t) (elt := (evR G (fnEval G k) (.call 46 (.cons (.var 1) (.cons (.var 9) .nil)))).f)
    (fun i acc e => ∃ (fs : List (Nat → Bool)) (a' : Nat) (x : Sl), acc = fs.map (fD m) ∧ e = [s0, .ow (drD l a'), .sh (nD n), s3, s4, s5, s6, s7, s8, .sh (nD m), s10, s11, s12, s13, s14, s15, s16, s17, s18, s19, s20, s21, s22, s23, s24, s25, s26, s27, x, s29, s30] ∧ fs.length = i ∧ a' ≤ at_ + 1044 * i) (rngL 0 n) [] 0 [s0, .ow (drD l at_), .sh (nD n), s3, s4, s5, s6, s7, s8, .sh (nD m), s10, s11, s12, s13, s14, s15, s16, s17, s18, s19, s20, s21, s22, s23, s24, s25, s26, s27, s28, s29, s30] (by rw [rng_len, sizeLine_eq]; simp; omega) ⟨[], at_, _, rfl, rfl, rfl, by omega⟩ fun j d acc e hd ⟨fs, a', x, e1, e2, r1, r2⟩ => by
      subst e1 e2
      rw [Nat.zero_add] at r1 r2 ⊢
      have hlt : j < n := by
        have := (List.getElem?_eq_some_iff.mp hd).1
        rwa [rng_len] at this
      refine ⟨[s0, .ow (drD l a'), .sh (nD n), s3, s4, s5, s6, s7, s8, .sh (nD m), s10, s11, s12, s13, s14, s15, s16, s17, s18, s19, s20, s21, s22, s23, s24, s25, s26, s27, .sh d, s29, s30], rfl, .inr ?_⟩
      obtain ⟨b, a2, h2, g⟩ := fcall k 1 l a' m hs hl (by omega) hm (by omega) (.var 9) [s0, .ow (drD l a'), .sh (nD n), s3, s4, s5, s6, s7, s8, .sh (nD m), s10, s11, s12, s13, s14, s15, s16, s17, s18, s19, s20, s21, s22, s23, s24, s25, s26, s27, .sh d, s29, s30] rfl rfl
      exact ⟨_, (fD m b, false), _, rfl, g, fs ++ [b], a2, .sh d, by simp, rfl, by simp [r1], by omega⟩
  subst e1 e2
  rw [rng_len, Nat.zero_add] at r1 r2
  refine ⟨fun i => fs.getD i fun _ => false, a', r2, ?_⟩
  have e3 : rowsF m n (fun i => fs.getD i fun _ => false) = .lst (fs.map (fD m)) := by
    unfold rowsF
    congr 1
    refine List.ext_getElem (by simp [r1]) fun i h1 h2 => ?_
    have hi : i < fs.length := by simpa using h2
    rw [List.getElem_map, List.getElem_map, List.getElem_range]
    show fD m (fs.getD i fun _ => false) = fD m fs[i]
    rw [List.getD_eq_getElem?_getD, List.getElem?_eq_getElem hi]
    rfl
  rw [e3]
  exact comp_ok (G := G) (call := fnEval G k) (own := [("j", 28)]) (it := .rng1 (.var 2)) (e := [s0, .ow (drD l at_), .sh (nD n), s3, s4, s5, s6, s7, s8, .sh (nD m), s10, s11, s12, s13, s14, s15, s16, s17, s18, s19, s20, s21, s22, s23, s24, s25, s26, s27, s28, s29, s30]) (e1 := [s0, .ow (drD l at_), .sh (nD n), s3, s4, s5, s6, s7, s8, .sh (nD m), s10, s11, s12, s13, s14, s15, s16, s17, s18, s19, s20, s21, s22, s23, s24, s25, s26, s27, s28, s29, s30]) (by
    rw [rng1_i (n := n) (fr := false) rfl (by omega), rng_range]) k1 rfl
theorem g19 (call : Nat → List Sl → FR) {n m : Nat} (hn : n ≤ 10) (hm : m ≤ 10) (a : Nat → Bool) (Rw : Nat → Nat → Bool) : (evR G call F51c19).f [s0, s1, .sh (nD n), s3, s4, s5, s6, s7, s8, .sh (nD m), .ow (rowsF m n Rw), s11, s12, s13, .sh (fD n a), s15, s16, s17, s18, s19, s20, s21, s22, s23, s24, s25, s26, s27, s28, s29, s30] = .ok (bD m (fun q => a (sel Rw n q)), true) [s0, s1, .sh (nD n), s3, s4, s5, s6, s7, s8, .sh (nD m), .ow (rowsF m n Rw), s11, s12, s13, .sh (fD n a), s15, s16, s17, s18, s19, s20, s21, s22, s23, s24, s25, s26, s27, s28, s29, s30] := by
  have p2 := p2le hn
  have q2 := p2le hm
  refine comp_all (List.range (2 ^ m)) nD (fun q => .bl (a (sel Rw n q))) (rng1_i (fr := false) (by
    have l9 : m ≤ 1000000 := by omega
    simp [l9, exR, evR, lineOk, sizeLine_eq, ofX, ofF, noR, R.out, R.bind, R.of, with1, with2, withs, Bor.res, Bor.frz, ress, frzs, bl2, dat, Sl.get?, Sl.frz, mkSl, Out.res, Res.put, mkArgs, ioAt, doCall, putIos, nd0, nd1, ndl, ndc, nAdd, nSub, nMul, nDiv, nMod, nShl, nShr, nAnd, nXor, nPow, sAdd, lAdd, rAdd, tAdd, lMul, sMul, cEqN, cEqS, cEqB, cNeN, cNeS, cNeB, cLt, cLe, cGt, cGe, cIs, cIsN, isNonN, isNonS, isNonL, isNonR, isNonT, isNonB, isNon0, inS, ninS, tN, tB, tL, tT, tR, t0, bLenL, bLenT, bLenR, bLenS, bIntN, bMin, bMax, bSum, bLstL, bLstT, bTupL, bTupT, ixL, ixT, ixR, ixS, isiN, isiR, flatN, flatR, mutN, mutR, itR, itL, itT, itS, cNilR, cNilN, cNilL, cNilM, meTyJ, inR, ninR, flat0, flatB, flatI, flatS, flatF, flatL, flatT, flatD, mut0, mutB, mutI, mutS, mutF, mutL, mutT, mutD, isi0, isiB, isiI, isiS, isiL, isiT, isiDc, muOk, muTyR, muTyL, muAR, muAL, rMul, setR, bAbs]) (by omega)) (by simp; omega) (fun q hq => ⟨false, ?_⟩)
  have hq : q < 2 ^ m := by simpa using hq
  have cc : (evR G call F51c18).f [s0, s1, .sh (nD n), s3, s4, s5, s6, s7, s8, .sh (nD m), .ow (rowsF m n Rw), s11, s12, s13, .sh (fD n a), s15, s16, s17, s18, s19, s20, s21, s22, s23, s24, s25, s26, .sh (nD q), s28, s29, s30] = .ok (rowsD (((List.range n).filter fun i => Rw i q).map fun i => 2 ^ i), true) [s0, s1, .sh (nD n), s3, s4, s5, s6, s7, s8, .sh (nD m), .ow (rowsF m n Rw), s11, s12, s13, .sh (fD n a), s15, s16, s17, s18, s19, s20, s21, s22, s23, s24, s25, s26, .sh (nD q), s28, s29, s30] := by
    rw [← rows_map]
    refine comp_det (List.range n) nD (fun i => Rw i q) (fun i => nD (2 ^ i)) (rng1_i (fr := false) rfl (by omega)) (by simp; omega) (fun i hi => ?_) (fun i hi _ => ⟨false, ?_⟩)
    · have xi : ixD (rowsF m n Rw) (nD i) = some (fD m (Rw i)) := ixRange (by simpa using hi)
      have j1 := ixF1 m (Rw i)
      have tx := ixTx (Rw i) hm hq
      have e := cEq1 (Rw i q)
      generalize fD m (Rw i) = r at xi j1
      generalize rowsF m n Rw = rr at xi ⊢
      simp [xi, j1, tx, e, exR, evR, lineOk, sizeLine_eq, ofX, ofF, noR, R.out, R.bind, R.of, with1, with2, withs, Bor.res, Bor.frz, ress, frzs, bl2, dat, Sl.get?, Sl.frz, mkSl, Out.res, Res.put, mkArgs, ioAt, doCall, putIos, nd0, nd1, ndl, ndc, nAdd, nSub, nMul, nDiv, nMod, nShl, nShr, nAnd, nXor, nPow, sAdd, lAdd, rAdd, tAdd, lMul, sMul, cEqN, cEqB, cNeN, cNeB, cLt, cLe, cGt, cGe, cIs, cIsN, isNonN, isNonS, isNonL, isNonR, isNonT, isNonB, isNon0, inS, ninS, tN, tB, tL, tT, tR, t0, bLenL, bLenT, bLenR, bLenS, bIntN, bMin, bMax, bSum, bLstL, bLstT, bTupL, bTupT, ixL, ixT, ixR, ixS, isiN, isiR, flatN, flatR, mutN, mutR, itR, itL, itT, itS, cNilR, cNilN, cNilL, cNilM, meTyJ, inR, ninR, flat0, flatB, flatI, flatS, flatF, flatL, flatT, flatD, mut0, mutB, mutI, mutS, mutF, mutL, mutT, mutD, isi0, isiB, isiI, isiS, isiL, isiT, isiDc, muOk, muTyR, muTyL, muAR, muAL, rMul, setR, bAbs]
    · have hi' : i < n := by simpa using hi
      have l9 : i ≤ 1000000 := by omega
      simp [l9, exR, evR, lineOk, sizeLine_eq, ofX, ofF, noR, R.out, R.bind, R.of, with1, with2, withs, Bor.res, Bor.frz, ress, frzs, bl2, dat, Sl.get?, Sl.frz, mkSl, Out.res, Res.put, mkArgs, ioAt, doCall, putIos, nd0, nd1, ndl, ndc, nAdd, nSub, nMul, nDiv, nMod, nShl, nShr, nAnd, nXor, nPow, sAdd, lAdd, rAdd, tAdd, lMul, sMul, cEqN, cEqS, cEqB, cNeN, cNeS, cNeB, cLt, cLe, cGt, cGe, cIs, cIsN, isNonN, isNonS, isNonL, isNonR, isNonT, isNonB, isNon0, inS, ninS, tN, tB, tL, tT, tR, t0, bLenL, bLenT, bLenR, bLenS, bIntN, bMin, bMax, bSum, bLstL, bLstT, bTupL, bTupT, ixL, ixT, ixR, ixS, isiN, isiR, flatN, flatR, mutN, mutR, itR, itL, itT, itS, cNilR, cNilN, cNilL, cNilM, meTyJ, inR, ninR, flat0, flatB, flatI, flatS, flatF, flatL, flatT, flatD, mut0, mutB, mutI, mutS, mutF, mutL, mutT, mutD, isi0, isiB, isiI, isiS, isiL, isiT, isiDc, muOk, muTyR, muTyL, muAR, muAL, rMul, setR, bAbs]
  have sm : biD .sum [rowsD (((List.range n).filter fun i => Rw i q).map fun i => 2 ^ i)] = some (nD (sel Rw n q), false) := bSum _
  have tb := ixTx a hn (sel_lt Rw q n)
  have i1 := ixF1 n a
  generalize sel Rw n q = w at sm tb ⊢
  generalize rowsD (((List.range n).filter fun i => Rw i q).map fun i => 2 ^ i) = rs at cc sm
  have e := cEq1 (a w)
  generalize fD n a = fa at cc i1 ⊢
  generalize rowsF m n Rw = rr at cc ⊢
  generalize ch (a w) = cw at tb e
  generalize a w = aw at e ⊢
  simp [cc, sm, tb, i1, e, exR, evR, lineOk, sizeLine_eq, ofX, ofF, noR, R.out, R.bind, R.of, with1, with2, withs, Bor.res, Bor.frz, ress, frzs, bl2, dat, Sl.get?, Sl.frz, mkSl, Out.res, Res.put, mkArgs, ioAt, doCall, putIos, nd0, nd1, ndl, ndc, nAdd, nSub, nMul, nDiv, nMod, nShl, nShr, nAnd, nXor, nPow, sAdd, lAdd, rAdd, tAdd, lMul, sMul, cEqN, cEqB, cNeN, cNeB, cLt, cLe, cGt, cGe, cIs, cIsN, isNonN, isNonS, isNonL, isNonR, isNonT, isNonB, isNon0, inS, ninS, tN, tB, tL, tT, tR, t0, bLenL, bLenT, bLenR, bLenS, bIntN, bMin, bMax, bLstL, bLstT, bTupL, bTupT, ixL, ixT, ixR, ixS, isiN, isiR, flatN, flatR, mutN, mutR, itR, itL, itT, itS, cNilR, cNilN, cNilL, cNilM, meTyJ, inR, ninR, flat0, flatB, flatI, flatS, flatF, flatL, flatT, flatD, mut0, mutB, mutI, mutS, mutF, mutL, mutT, mutD, isi0, isiB, isiI, isiS, isiL, isiT, isiDc, muOk, muTyR, muTyL, muAR, muAL, rMul, setR, bAbs]
/-- told, values in due -/
def dueD (n : Nat) (bs : List (Nat → Bool)) : D := .lst (bs.map fun b => .tup [fD n b, bD n b])
theorem leq (k : Nat) (d : D) (h1 : d.lim = true) (h2 : d.dep ≤ 1) (h : 3 ≤ k) : (fnEval G k 44 [.sh d, .sh d]).res = .ok (.bl true) false := leq_any (.inr rfl) (show G.fns[44]? = some ⟨"_law_equal", 2, ["actual", "due"], [], bEq2 45⟩ from rfl) rfl (show G.fns[45]? = some ⟨"_law_all_equal", 2, ["actual", "due", "k"], [], bAll 44⟩ from rfl) rfl 1 d k h1 h2 (by omega)
theorem leqF (k n : Nat) (b : Nat → Bool) (h : 3 ≤ k) : (fnEval G k 44 [.sh (fD n b), .sh (fD n b)]).res = .ok (.bl true) false := leq k _ rfl (Nat.le_refl 1) h
theorem l0 (k : Nat) (hk : 3 ≤ k) {n : Nat} (hn : n ≤ 10) (bs : List (Nat → Bool)) : ∃ x y, (exR G (fnEval G k) [] F51l0).x [s0, s1, .sh (nD n), s3, s4, .ow (dueD n bs), s6, s7, s8, s9, s10, s11, s12, s13, s14, s15, s16, s17, s18, s19, s20, s21, s22, s23, s24, s25, s26, s27, s28, s29, s30] = .nx [s0, s1, .sh (nD n), s3, s4, .sh (dueD n bs), s6, s7, s8, s9, s10, x, s12, s13, s14, s15, s16, s17, s18, s19, y, s21, s22, s23, s24, s25, s26, s27, s28, s29, s30] := by
  obtain ⟨e', k1, x, y, k2⟩ := for_thru (tg := .tp [20, 11]) (body := (exR G (fnEval G k) [] F51b0).x) (fun i e => ∃ x y, e = [s0, s1, .sh (nD n), s3, s4, .sh (dueD n bs), s6, s7, s8, s9, s10, x, s12, s13, s14, s15, s16, s17, s18, s19, y, s21, s22, s23, s24, s25, s26, s27, s28, s29, s30]) (bs.map fun b => .tup [fD n b, bD n b]) 0 [s0, s1, .sh (nD n), s3, s4, .sh (dueD n bs), s6, s7, s8, s9, s10, s11, s12, s13, s14, s15, s16, s17, s18, s19, s20, s21, s22, s23, s24, s25, s26, s27, s28, s29, s30] ⟨_, _, rfl⟩ fun j d e hj ⟨x, y, hx⟩ => by
    subst hx
    obtain ⟨b, _, rfl⟩ := List.mem_map.mp (List.mem_of_getElem? hj)
    have m := made k n (fun p => .bl (b p)) b hn (fun p _ => rfl) (by omega)
    have q := leqF k n b hk
    refine ⟨[s0, s1, .sh (nD n), s3, s4, .sh (dueD n bs), s6, s7, s8, s9, s10, .sh (bD n b), s12, s13, s14, s15, s16, s17, s18, s19, .sh (fD n b), s21, s22, s23, s24, s25, s26, s27, s28, s29, s30], [s0, s1, .sh (nD n), s3, s4, .sh (dueD n bs), s6, s7, s8, s9, s10, .sh (bD n b), s12, s13, s14, s15, s16, s17, s18, s19, .sh (fD n b), s21, s22, s23, s24, s25, s26, s27, s28, s29, s30], rfl, .inl ?_, _, _, rfl⟩
    have m : (fnEval G k 47 [.sh (nD n), .sh (bD n b)]).res = .ok (fD n b) false := m
    generalize fD n b = r at m q ⊢
    generalize bD n b = v at m ⊢
    generalize dueD n bs = dd
    unfold F51b0
    simp [m, q, exR, evR, lineOk, sizeLine_eq, ofX, ofF, noR, R.out, R.bind, R.of, with1, with2, withs, Bor.res, Bor.frz, ress, frzs, bl2, dat, Sl.get?, Sl.frz, mkSl, Out.res, Res.put, mkArgs, ioAt, doCall, putIos, nd0, nd1, ndl, ndc, nAdd, nSub, nMul, nDiv, nMod, nShl, nShr, nAnd, nXor, nPow, sAdd, lAdd, rAdd, tAdd, lMul, sMul, cEqN, cEqS, cEqB, cNeN, cNeS, cNeB, cLt, cLe, cGt, cGe, cIs, cIsN, isNonN, isNonS, isNonL, isNonR, isNonT, isNonB, isNon0, inS, ninS, tN, tB, tL, tT, tR, t0, bLenL, bLenT, bLenR, bLenS, bIntN, bMin, bMax, bSum, bLstL, bLstT, bTupL, bTupT, ixL, ixT, ixR, ixS, isiN, isiR, flatN, flatR, mutN, mutR, itR, itL, itT, itS, cNilR, cNilN, cNilL, cNilM, meTyJ, inR, ninR, flat0, flatB, flatI, flatS, flatF, flatL, flatT, flatD, mut0, mutB, mutI, mutS, mutF, mutL, mutT, mutD, isi0, isiB, isiI, isiS, isiL, isiT, isiDc, muOk, muTyR, muTyL, muAR, muAL, rMul, setR, bAbs]
  subst k2
  exact ⟨x, y, by unfold F51l0; exact for_nx rfl rfl k1⟩
theorem l1 (k : Nat) (hk : 3 ≤ k) {n : Nat} (hn : n ≤ 10) (bs : List (Nat → Bool)) : ∃ x y, (exR G (fnEval G k) [] F51l1).x [s0, s1, .sh (nD n), s3, s4, .ow (dueD n bs), s6, s7, s8, s9, s10, s11, s12, s13, s14, s15, s16, s17, s18, s19, s20, s21, s22, s23, s24, s25, s26, s27, s28, s29, s30] = .nx [s0, s1, .sh (nD n), s3, s4, .sh (dueD n bs), s6, s7, s8, s9, s10, x, s12, s13, s14, s15, s16, s17, s18, s19, y, s21, s22, s23, s24, s25, s26, s27, s28, s29, s30] := l0 s0 s1 s3 s4 s6 s7 s8 s9 s10 s11 s12 s13 s14 s15 s16 s17 s18 s19 s20 s21 s22 s23 s24 s25 s26 s27 s28 s29 s30 k hk hn bs
end K00
namespace K00
open PySem EV
def isEr (c : Nat) : Res → Bool
  | .er d => d == c
  | _ => false
theorem er_of {c : Nat} {r : Res} (h : isEr c r = true) : r = .er c := by
  cases r with
  | er d =>
    have : d = c := by simpa [isEr] using h
    rw [this]
  | ok _ _ => cases h
  | st => cases h
theorem chk_er (k a b c : Nat) (h : 2 ≤ k) (h1 : ¬ (b ≤ a ∧ a ≤ c)) : (fnEval G k 1 [.sh (nD a), .sh (nD b), .sh (nD c)]).res = .er 2 := by
  have := checknum_ok n1 rfl n0 rfl k (nD a) (b : Int) (c : Int) rfl h
  have e : ¬ isNum (nD a) (b : Int) (c : Int) = true := by
    show ¬ ((decide ((b : Int) ≤ (a : Int)) && decide ((a : Int) ≤ (c : Int))) = true)
    rw [Bool.and_eq_true, decide_eq_true_iff, decide_eq_true_iff]
    omega
  rw [if_neg e] at this
  exact this
theorem chk_erB (k b c : Nat) (h : 2 ≤ k) : (fnEval G k 1 [.sh (.bl true), .sh (nD b), .sh (nD c)]).res = .er 2 := by
  have := checknum_ok n1 rfl n0 rfl k (.bl true) (b : Int) (c : Int) rfl h
  rw [if_neg (show ¬ isNum (D.bl true) (b : Int) (c : Int) = true from Bool.false_ne_true)] at this
  exact this
theorem f20_er (v : D) (h : ∀ k, 2 ≤ k → (fnEval G k 6 [.sh v]).res = .ok (.bl false) false) : (fnEval G 40 20 [.sh v]).res = .er 1 := by
  have c : (fnEval G 39 7 [.sh v]).res = .er 1 := by
    rw [fn_at 38 [.sh v] [.sh v] n7 rfl rfl]
    have i := h 38 (by decide)
    simp [bCheckFun, i, exR, evR, lineOk, sizeLine_eq, ofX, ofF, noR, R.out, R.bind, R.of, with1, with2, withs, Bor.res, Bor.frz, ress, frzs, bl2, dat, Sl.get?, Sl.frz, mkSl, Out.res, Res.put, mkArgs, ioAt, doCall, putIos, nd0, nd1, ndl, ndc, nAdd, nSub, nMul, nDiv, nMod, nShl, nShr, nAnd, nXor, nPow, sAdd, lAdd, rAdd, tAdd, lMul, sMul, cEqN, cEqS, cEqB, cNeN, cNeS, cNeB, cLt, cLe, cGt, cGe, cIs, cIsN, isNonN, isNonS, isNonL, isNonR, isNonT, isNonB, isNon0, inS, ninS, tN, tB, tL, tT, tR, t0, bLenL, bLenT, bLenR, bLenS, bIntN, bMin, bMax, bSum, bLstL, bLstT, bTupL, bTupT, ixL, ixT, ixR, ixS, isiN, isiR, flatN, flatR, mutN, mutR, itR, itL, itT, itS, cNilR, cNilN, cNilL, cNilM, meTyJ, inR, ninR, flat0, flatB, flatI, flatS, flatF, flatL, flatT, flatD, mut0, mutB, mutI, mutS, mutF, mutL, mutT, mutD, isi0, isiB, isiI, isiS, isiL, isiT, isiDc, muOk, muTyR, muTyL, muAR, muAL, rMul, setR, bAbs]
  rw [fn_at 39 [.sh v] [.sh v] (show G.fns[20]? = some f20 from rfl) rfl rfl]
  simp [c, exR, evR, lineOk, sizeLine_eq, ofX, ofF, noR, R.out, R.bind, R.of, with1, with2, withs, Bor.res, Bor.frz, ress, frzs, bl2, dat, Sl.get?, Sl.frz, mkSl, Out.res, Res.put, mkArgs, ioAt, doCall, putIos, nd0, nd1, ndl, ndc, nAdd, nSub, nMul, nDiv, nMod, nShl, nShr, nAnd, nXor, nPow, sAdd, lAdd, rAdd, tAdd, lMul, sMul, cEqN, cEqS, cEqB, cNeN, cNeS, cNeB, cLt, cLe, cGt, cGe, cIs, cIsN, isNonN, isNonS, isNonL, isNonR, isNonT, isNonB, isNon0, inS, ninS, tN, tB, tL, tT, tR, t0, bLenL, bLenT, bLenR, bLenS, bIntN, bMin, bMax, bSum, bLstL, bLstT, bTupL, bTupT, ixL, ixT, ixR, ixS, isiN, isiR, flatN, flatR, mutN, mutR, itR, itL, itT, itS, cNilR, cNilN, cNilL, cNilM, meTyJ, inR, ninR, flat0, flatB, flatI, flatS, flatF, flatL, flatT, flatD, mut0, mutB, mutI, mutS, mutF, mutL, mutT, mutD, isi0, isiB, isiI, isiS, isiL, isiT, isiDc, muOk, muTyR, muTyL, muAR, muAL, rMul, setR, bAbs]
theorem isf1 (n k : Nat) (h : 2 ≤ k) : (fnEval G k 6 [.sh (.tup [nD n])]).res = .ok (.bl false) false := by
  obtain ⟨k, rfl⟩ : ∃ j, k = j + 1 := ⟨k - 1, by omega⟩
  rw [fn_at k [.sh (.tup [nD n])] [.sh (.tup [nD n])] n6 rfl rfl]
  simp [bIsFun, exR, evR, lineOk, sizeLine_eq, ofX, ofF, noR, R.out, R.bind, R.of, with1, with2, withs, Bor.res, Bor.frz, ress, frzs, bl2, dat, Sl.get?, Sl.frz, mkSl, Out.res, Res.put, mkArgs, ioAt, doCall, putIos, nd0, nd1, ndl, ndc, nAdd, nSub, nMul, nDiv, nMod, nShl, nShr, nAnd, nXor, nPow, sAdd, lAdd, rAdd, tAdd, lMul, sMul, cEqN, cEqS, cEqB, cNeN, cNeS, cNeB, cLt, cLe, cGt, cGe, cIs, cIsN, isNonN, isNonS, isNonL, isNonR, isNonT, isNonB, isNon0, inS, ninS, tN, tB, tL, tT, tR, t0, bLenL, bLenT, bLenR, bLenS, bIntN, bMin, bMax, bSum, bLstL, bLstT, bTupL, bTupT, ixL, ixT, ixR, ixS, isiN, isiR, flatN, flatR, mutN, mutR, itR, itL, itT, itS, cNilR, cNilN, cNilL, cNilM, meTyJ, inR, ninR, flat0, flatB, flatI, flatS, flatF, flatL, flatT, flatD, mut0, mutB, mutI, mutS, mutF, mutL, mutT, mutD, isi0, isiB, isiI, isiS, isiL, isiT, isiDc, muOk, muTyR, muTyL, muAR, muAL, rMul, setR, bAbs]
theorem isf2 (n : Nat) (hn : n ≤ 10) (a : Nat → Bool) (k : Nat) (h : 2 ≤ k) : (fnEval G k 6 [.sh (.tup [nD n, .str (tx n a ++ [48])])]).res = .ok (.bl false) false := by
  obtain ⟨k, rfl⟩ : ∃ j, k = j + 1 := ⟨k - 1, by omega⟩
  rw [fn_at k [.sh (.tup [nD n, .str (tx n a ++ [48])])] [.sh (.tup [nD n, .str (tx n a ++ [48])])] n6 rfl rfl]
  have p2 := p2le hn
  have i := num k n 0 10 (by omega)
  have t := two k n (by omega) (by omega)
  have ln : biD .len [.str (tx n a ++ [48])] = some (nD (2 ^ n + 1), false) := by
    rw [bLenS (by rw [List.length_append, tx_len]; simp; omega), List.length_append, tx_len]
    rfl
  have b : (fnEval G k 3 [.sh (.str (tx n a ++ [48])), .sh (nD (2 ^ n))]).res = .ok (.bl false) false := by
    obtain ⟨k, rfl⟩ : ∃ j, k = j + 1 := ⟨k - 1, by omega⟩
    rw [fn_at k [.sh (.str (tx n a ++ [48])), .sh (nD (2 ^ n))] [.sh (.str (tx n a ++ [48])), .sh (nD (2 ^ n)), .no] n3 rfl rfl]
    have ne : ¬ 2 ^ n + 1 = 2 ^ n := by omega
    generalize tx n a ++ [48] = s at ln ⊢
    unfold bIsBits
    refine go_tt_rt (Is _) (e1 := [.sh (.str s), .sh (nD (2 ^ n)), .no]) (d := .bl false) (fr := false) (e2 := [.sh (.str s), .sh (nD (2 ^ n)), .no]) ?_ rfl rfl
    generalize 2 ^ n = w at ln ne ⊢
    generalize hv : w + 1 = v at ln ne
    simp [ln, ne, exR, evR, lineOk, sizeLine_eq, ofX, ofF, noR, R.out, R.bind, R.of, with1, with2, withs, Bor.res, Bor.frz, ress, frzs, bl2, dat, Sl.get?, Sl.frz, mkSl, Out.res, Res.put, mkArgs, ioAt, doCall, putIos, nd0, nd1, ndl, ndc, nAdd, nSub, nMul, nDiv, nMod, nShl, nShr, nAnd, nXor, nPow, sAdd, lAdd, rAdd, tAdd, lMul, sMul, cEqN, cEqS, cEqB, cNeN, cNeS, cNeB, cLt, cLe, cGt, cGe, cIs, cIsN, isNonN, isNonS, isNonL, isNonR, isNonT, isNonB, isNon0, inS, ninS, tN, tB, tL, tT, tR, t0, bLenL, bLenT, bLenR, bLenS, bIntN, bMin, bMax, bSum, bLstL, bLstT, bTupL, bTupT, ixL, ixT, ixR, ixS, isiN, isiR, flatN, flatR, mutN, mutR, itR, itL, itT, itS, cNilR, cNilN, cNilL, cNilM, meTyJ, inR, ninR, flat0, flatB, flatI, flatS, flatF, flatL, flatT, flatD, mut0, mutB, mutI, mutS, mutF, mutL, mutT, mutD, isi0, isiB, isiI, isiS, isiL, isiT, isiDc, muOk, muTyR, muTyL, muAR, muAL, rMul, setR, bAbs]
  generalize tx n a ++ [48] = s at b ⊢
  generalize 2 ^ n = w at t b ⊢
  simp [bIsFun, i, hn, t, b, exR, evR, lineOk, sizeLine_eq, ofX, ofF, noR, R.out, R.bind, R.of, with1, with2, withs, Bor.res, Bor.frz, ress, frzs, bl2, dat, Sl.get?, Sl.frz, mkSl, Out.res, Res.put, mkArgs, ioAt, doCall, putIos, nd0, nd1, ndl, ndc, nAdd, nSub, nMul, nDiv, nMod, nShl, nShr, nAnd, nXor, nPow, sAdd, lAdd, rAdd, tAdd, lMul, sMul, cEqN, cEqS, cEqB, cNeN, cNeS, cNeB, cLt, cLe, cGt, cGe, cIs, cIsN, isNonN, isNonS, isNonL, isNonR, isNonT, isNonB, isNon0, inS, ninS, tN, tB, tL, tT, tR, t0, bLenL, bLenT, bLenR, bLenS, bIntN, bMin, bMax, bSum, bLstL, bLstT, bTupL, bTupT, ixL, ixT, ixR, ixS, isiN, isiR, flatN, flatR, mutN, mutR, itR, itL, itT, itS, cNilR, cNilN, cNilL, cNilM, meTyJ, inR, ninR, flat0, flatB, flatI, flatS, flatF, flatL, flatT, flatD, mut0, mutB, mutI, mutS, mutF, mutL, mutT, mutD, isi0, isiB, isiI, isiS, isiL, isiT, isiDc, muOk, muTyR, muTyL, muAR, muAL, rMul, setR, bAbs]
def bads0 : List D := [.non, .tup [nD 11, .str [48]], .tup [.bl true, .str [48, 49]], .tup [nD 1, .str [48, 50]], .lst [nD 1, .str [48, 49]], .tup [nD 1, .lst [.str [48], .str [49]]], .tup [.int (-1), .str []]]
theorem bads0_all : (bads0.all fun v => isEr 1 (fnEval G 40 20 [.sh v]).res) = true := by decide +kernel
def bads (n : Nat) (a : Nat → Bool) : List D := [.non, .tup [nD n], .tup [nD n, .str (tx n a ++ [48])], .tup [nD 11, .str [48]], .tup [.bl true, .str [48, 49]], .tup [nD 1, .str [48, 50]], .lst [nD 1, .str [48, 49]], .tup [nD 1, .lst [.str [48], .str [49]]], .tup [.int (-1), .str []]]
theorem bads_er {n : Nat} (hn : n ≤ 10) (a : Nat → Bool) (v : D) (hv : v ∈ bads n a) : (fnEval G 40 20 [.sh v]).res = .er 1 := by
  have b0 : ∀ v ∈ bads0, (fnEval G 40 20 [.sh v]).res = .er 1 := fun v hv => er_of (List.all_eq_true.mp bads0_all v hv)
  simp only [bads, List.mem_cons, List.not_mem_nil, or_false] at hv
  rcases hv with rfl | rfl | rfl | rfl | rfl | rfl | rfl | rfl | rfl
  · exact b0 _ (by simp [bads0])
  · exact f20_er _ fun k hk => isf1 n k hk
  · exact f20_er _ fun k hk => isf2 n hn a k hk
  · exact b0 _ (by simp [bads0])
  · exact b0 _ (by simp [bads0])
  · exact b0 _ (by simp [bads0])
  · exact b0 _ (by simp [bads0])
  · exact b0 _ (by simp [bads0])
  · exact b0 _ (by simp [bads0])
/-! wrong arguments -/
theorem f9_er (n : Nat) (hn : n ≤ 10) (a : Nat → Bool) (v : D) (k : Nat) (h : 2 ≤ k) (hc : (fnEval G k 1 [.sh v, .sh (nD 0), .sh (nD (2 ^ n - 1))]).res = .er 2) : (fnEval G (k + 1) 9 [.sh (fD n a), .sh v]).res = .er 2 := by
  rw [fn_at k [.sh (fD n a), .sh v] [.sh (fD n a), .sh v] (show G.fns[9]? = some f9 from rfl) rfl rfl]
  have t := two k n (by omega) (by omega)
  have p1 : 0 < 2 ^ n := Nat.pow_pos (by decide)
  have s := nSub (a := 2 ^ n) (b := 1) (by omega)
  have i0 := ixF0 n a
  generalize 2 ^ n = w at t s hc ⊢
  simp [t, s, hc, i0, exR, evR, lineOk, sizeLine_eq, ofX, ofF, noR, R.out, R.bind, R.of, with1, with2, withs, Bor.res, Bor.frz, ress, frzs, bl2, dat, Sl.get?, Sl.frz, mkSl, Out.res, Res.put, mkArgs, ioAt, doCall, putIos, nd0, nd1, ndl, ndc, nAdd, nSub, nMul, nDiv, nMod, nShl, nShr, nAnd, nXor, nPow, sAdd, lAdd, rAdd, tAdd, lMul, sMul, cEqN, cEqS, cEqB, cNeN, cNeS, cNeB, cLt, cLe, cGt, cGe, cIs, cIsN, isNonN, isNonS, isNonL, isNonR, isNonT, isNonB, isNon0, inS, ninS, tN, tB, tL, tT, tR, t0, bLenL, bLenT, bLenR, bLenS, bIntN, bMin, bMax, bSum, bLstL, bLstT, bTupL, bTupT, ixL, ixT, ixR, ixS, isiN, isiR, flatN, flatR, mutN, mutR, itR, itL, itT, itS, cNilR, cNilN, cNilL, cNilM, meTyJ, inR, ninR, flat0, flatB, flatI, flatS, flatF, flatL, flatT, flatD, mut0, mutB, mutI, mutS, mutF, mutL, mutT, mutD, isi0, isiB, isiI, isiS, isiL, isiT, isiDc, muOk, muTyR, muTyL, muAR, muAL, rMul, setR, bAbs]
theorem f12_er (n : Nat) (hn : n ≤ 10) (a : Nat → Bool) (v : D) (hc : (fnEval G 38 1 [.sh v, .sh (nD 0), .sh (nD (2 ^ n - 1))]).res = .er 2) : (fnEval G 40 12 [.sh (fD n a), .sh v]).res = .er 2 := by
  rw [fn_at 39 [.sh (fD n a), .sh v] [.sh (fD n a), .sh v] (show G.fns[12]? = some f12 from rfl) rfl rfl]
  have c1 := chkf 39 n a hn (by omega)
  have c2 := f9_er n hn a v 38 (by decide) hc
  simp [c1, c2, exR, evR, lineOk, sizeLine_eq, ofX, ofF, noR, R.out, R.bind, R.of, with1, with2, withs, Bor.res, Bor.frz, ress, frzs, bl2, dat, Sl.get?, Sl.frz, mkSl, Out.res, Res.put, mkArgs, ioAt, doCall, putIos, nd0, nd1, ndl, ndc, nAdd, nSub, nMul, nDiv, nMod, nShl, nShr, nAnd, nXor, nPow, sAdd, lAdd, rAdd, tAdd, lMul, sMul, cEqN, cEqS, cEqB, cNeN, cNeS, cNeB, cLt, cLe, cGt, cGe, cIs, cIsN, isNonN, isNonS, isNonL, isNonR, isNonT, isNonB, isNon0, inS, ninS, tN, tB, tL, tT, tR, t0, bLenL, bLenT, bLenR, bLenS, bIntN, bMin, bMax, bSum, bLstL, bLstT, bTupL, bTupT, ixL, ixT, ixR, ixS, isiN, isiR, flatN, flatR, mutN, mutR, itR, itL, itT, itS, cNilR, cNilN, cNilL, cNilM, meTyJ, inR, ninR, flat0, flatB, flatI, flatS, flatF, flatL, flatT, flatD, mut0, mutB, mutI, mutS, mutF, mutL, mutT, mutD, isi0, isiB, isiI, isiS, isiL, isiT, isiDc, muOk, muTyR, muTyL, muAR, muAL, rMul, setR, bAbs]
theorem f22_er (n m : Nat) (hn : n ≤ 10) (hm : m ≤ 10) (hne : n ≠ m) (a b : Nat → Bool) : (fnEval G 40 22 [.sh (fD n a), .sh (fD m b)]).res = .er 2 := by
  have c : (fnEval G 39 8 [.sh (fD n a), .sh (fD m b)]).res = .er 2 := by
    rw [fn_at 38 [.sh (fD n a), .sh (fD m b)] [.sh (fD n a), .sh (fD m b)] (show G.fns[8]? = some f8 from rfl) rfl rfl]
    have c1 := chkf 38 n a hn (by omega)
    have c2 := chkf 38 m b hm (by omega)
    have i1 := ixF0 n a
    have i2 := ixF0 m b
    generalize fD n a = x at c1 i1 ⊢
    generalize fD m b = y at c2 i2 ⊢
    simp [c1, c2, i1, i2, hne, exR, evR, lineOk, sizeLine_eq, ofX, ofF, noR, R.out, R.bind, R.of, with1, with2, withs, Bor.res, Bor.frz, ress, frzs, bl2, dat, Sl.get?, Sl.frz, mkSl, Out.res, Res.put, mkArgs, ioAt, doCall, putIos, nd0, nd1, ndl, ndc, nAdd, nSub, nMul, nDiv, nMod, nShl, nShr, nAnd, nXor, nPow, sAdd, lAdd, rAdd, tAdd, lMul, sMul, cEqN, cEqS, cEqB, cNeN, cNeS, cNeB, cLt, cLe, cGt, cGe, cIs, cIsN, isNonN, isNonS, isNonL, isNonR, isNonT, isNonB, isNon0, inS, ninS, tN, tB, tL, tT, tR, t0, bLenL, bLenT, bLenR, bLenS, bIntN, bMin, bMax, bSum, bLstL, bLstT, bTupL, bTupT, ixL, ixT, ixR, ixS, isiN, isiR, flatN, flatR, mutN, mutR, itR, itL, itT, itS, cNilR, cNilN, cNilL, cNilM, meTyJ, inR, ninR, flat0, flatB, flatI, flatS, flatF, flatL, flatT, flatD, mut0, mutB, mutI, mutS, mutF, mutL, mutT, mutD, isi0, isiB, isiI, isiS, isiL, isiT, isiDc, muOk, muTyR, muTyL, muAR, muAL, rMul, setR, bAbs]
  rw [fn_at 39 [.sh (fD n a), .sh (fD m b)] [.sh (fD n a), .sh (fD m b)] (show G.fns[22]? = some f22 from rfl) rfl rfl]
  simp [c, exR, evR, lineOk, sizeLine_eq, ofX, ofF, noR, R.out, R.bind, R.of, with1, with2, withs, Bor.res, Bor.frz, ress, frzs, bl2, dat, Sl.get?, Sl.frz, mkSl, Out.res, Res.put, mkArgs, ioAt, doCall, putIos, nd0, nd1, ndl, ndc, nAdd, nSub, nMul, nDiv, nMod, nShl, nShr, nAnd, nXor, nPow, sAdd, lAdd, rAdd, tAdd, lMul, sMul, cEqN, cEqS, cEqB, cNeN, cNeS, cNeB, cLt, cLe, cGt, cGe, cIs, cIsN, isNonN, isNonS, isNonL, isNonR, isNonT, isNonB, isNon0, inS, ninS, tN, tB, tL, tT, tR, t0, bLenL, bLenT, bLenR, bLenS, bIntN, bMin, bMax, bSum, bLstL, bLstT, bTupL, bTupT, ixL, ixT, ixR, ixS, isiN, isiR, flatN, flatR, mutN, mutR, itR, itL, itT, itS, cNilR, cNilN, cNilL, cNilM, meTyJ, inR, ninR, flat0, flatB, flatI, flatS, flatF, flatL, flatT, flatD, mut0, mutB, mutI, mutS, mutF, mutL, mutT, mutD, isi0, isiB, isiI, isiS, isiL, isiT, isiDc, muOk, muTyR, muTyL, muAR, muAL, rMul, setR, bAbs]
theorem f36_er (n : Nat) (hn : n ≤ 10) (hn1 : 1 ≤ n) (a : Nat → Bool) : (fnEval G 40 36 [.sh (fD n a), .sh (nD n)]).res = .er 2 := by
  have i0 := ixF0 n a
  have c : (fnEval G 39 10 [.sh (fD n a), .sh (nD n)]).res = .er 2 := by
    rw [fn_at 38 [.sh (fD n a), .sh (nD n)] [.sh (fD n a), .sh (nD n)] (show G.fns[10]? = some f10 from rfl) rfl rfl]
    have c1 := chk_er 38 n 0 (n - 1) (by omega) (by omega)
    have s := nSub (a := n) (b := 1) (by omega)
    simp [c1, s, i0, exR, evR, lineOk, sizeLine_eq, ofX, ofF, noR, R.out, R.bind, R.of, with1, with2, withs, Bor.res, Bor.frz, ress, frzs, bl2, dat, Sl.get?, Sl.frz, mkSl, Out.res, Res.put, mkArgs, ioAt, doCall, putIos, nd0, nd1, ndl, ndc, nAdd, nSub, nMul, nDiv, nMod, nShl, nShr, nAnd, nXor, nPow, sAdd, lAdd, rAdd, tAdd, lMul, sMul, cEqN, cEqS, cEqB, cNeN, cNeS, cNeB, cLt, cLe, cGt, cGe, cIs, cIsN, isNonN, isNonS, isNonL, isNonR, isNonT, isNonB, isNon0, inS, ninS, tN, tB, tL, tT, tR, t0, bLenL, bLenT, bLenR, bLenS, bIntN, bMin, bMax, bSum, bLstL, bLstT, bTupL, bTupT, ixL, ixT, ixR, ixS, isiN, isiR, flatN, flatR, mutN, mutR, itR, itL, itT, itS, cNilR, cNilN, cNilL, cNilM, meTyJ, inR, ninR, flat0, flatB, flatI, flatS, flatF, flatL, flatT, flatD, mut0, mutB, mutI, mutS, mutF, mutL, mutT, mutD, isi0, isiB, isiI, isiS, isiL, isiT, isiDc, muOk, muTyR, muTyL, muAR, muAL, rMul, setR, bAbs]
  rw [fn_at 39 [.sh (fD n a), .sh (nD n)] [.sh (fD n a), .sh (nD n)] (show G.fns[36]? = some f36 from rfl) rfl rfl]
  have c1 := chkf 39 n a hn (by omega)
  simp [c1, c, exR, evR, lineOk, sizeLine_eq, ofX, ofF, noR, R.out, R.bind, R.of, with1, with2, withs, Bor.res, Bor.frz, ress, frzs, bl2, dat, Sl.get?, Sl.frz, mkSl, Out.res, Res.put, mkArgs, ioAt, doCall, putIos, nd0, nd1, ndl, ndc, nAdd, nSub, nMul, nDiv, nMod, nShl, nShr, nAnd, nXor, nPow, sAdd, lAdd, rAdd, tAdd, lMul, sMul, cEqN, cEqS, cEqB, cNeN, cNeS, cNeB, cLt, cLe, cGt, cGe, cIs, cIsN, isNonN, isNonS, isNonL, isNonR, isNonT, isNonB, isNon0, inS, ninS, tN, tB, tL, tT, tR, t0, bLenL, bLenT, bLenR, bLenS, bIntN, bMin, bMax, bSum, bLstL, bLstT, bTupL, bTupT, ixL, ixT, ixR, ixS, isiN, isiR, flatN, flatR, mutN, mutR, itR, itL, itT, itS, cNilR, cNilN, cNilL, cNilM, meTyJ, inR, ninR, flat0, flatB, flatI, flatS, flatF, flatL, flatT, flatD, mut0, mutB, mutI, mutS, mutF, mutL, mutT, mutD, isi0, isiB, isiI, isiS, isiL, isiT, isiDc, muOk, muTyR, muTyL, muAR, muAL, rMul, setR, bAbs]
/-- pairs that are none -/
theorem f39_er {n : Nat} (hn : n ≤ 10) (hn1 : 1 ≤ n) (b : Nat → Bool) (ps : List (Nat × Nat)) (hl : ps.length ≤ 1000) (r : Bool) (hr : (fnEval G 39 2 [.sh (rowsD (ps.map (·.1))), .sh (nD 0), .sh (nD (n - 1))]).res = .ok (.bl r) false) (hbad : r = false ∨ ps.any (fun z => !decide (z.2 ≤ 1)) = true) : (fnEval G 40 39 [.sh (fD n b), .sh (pD ps)]).res = .er 2 := by
  rw [fn_at 39 [.sh (fD n b), .sh (pD ps)] [.sh (fD n b), .sh (pD ps), .no, .no, .no] (show G.fns[39]? = some f39 from rfl) rfl rfl]
  have c1 := chkf 39 n b hn (by omega)
  have hc0 : (evR G (fnEval G 39) F39c0).f [.sh (fD n b), .sh (pD ps), .no, .no, .no] = .ok (.lst [], true) [.sh (fD n b), .sh (pD ps), .no, .no, .no] := by
    have e := comp_det (G := G) (call := fnEval G 39) (el := .var 4) (it := .var 1) (c := .or (.not (.isi (.var 4) .tuple)) (.cmp .NotEq (.bi .len (.cons (.var 4) .nil)) (.lit (.int 2)))) (v := 4) (s := "one") (e := [.sh (fD n b), .sh (pD ps), .no, .no, .no]) (e1 := [.sh (fD n b), .sh (pD ps), .no, .no, .no]) ps (fun z => .tup [nD z.1, nD z.2]) (fun _ => false) (fun z => .tup [nD z.1, nD z.2]) rfl (by omega) (fun z _ => by simp [exR, evR, lineOk, sizeLine_eq, ofX, ofF, noR, R.out, R.bind, R.of, with1, with2, withs, Bor.res, Bor.frz, ress, frzs, bl2, dat, Sl.get?, Sl.frz, mkSl, Out.res, Res.put, mkArgs, ioAt, doCall, putIos, nd0, nd1, ndl, ndc, nAdd, nSub, nMul, nDiv, nMod, nShl, nShr, nAnd, nXor, nPow, sAdd, lAdd, rAdd, tAdd, lMul, sMul, cEqN, cEqS, cEqB, cNeN, cNeS, cNeB, cLt, cLe, cGt, cGe, cIs, cIsN, isNonN, isNonS, isNonL, isNonR, isNonT, isNonB, isNon0, inS, ninS, tN, tB, tL, tT, tR, t0, bLenL, bLenT, bLenR, bLenS, bIntN, bMin, bMax, bSum, bLstL, bLstT, bTupL, bTupT, ixL, ixT, ixR, ixS, isiN, isiR, flatN, flatR, mutN, mutR, itR, itL, itT, itS, cNilR, cNilN, cNilL, cNilM, meTyJ, inR, ninR, flat0, flatB, flatI, flatS, flatF, flatL, flatT, flatD, mut0, mutB, mutI, mutS, mutF, mutL, mutT, mutD, isi0, isiB, isiI, isiS, isiL, isiT, isiDc, muOk, muTyR, muTyL, muAR, muAL, rMul, setR, bAbs]) (fun w _ hw => by cases hw)
    rw [filt_false] at e
    exact e
  have hc1 : (evR G (fnEval G 39) F39c1).f [.sh (fD n b), .sh (pD ps), .no, .no, .no] = .ok (rowsD (ps.map (·.1)), true) [.sh (fD n b), .sh (pD ps), .no, .no, .no] := by
    have e := comp_pairs (G := G) (call := fnEval G 39) (el := .var 2) (it := .var 1) (c := .nop) (v := 2) (w := 3) (s := "k") (t := "v") (e := [.sh (fD n b), .sh (pD ps), .no, .no, .no]) (e1 := [.sh (fD n b), .sh (pD ps), .no, .no, .no]) ps (fun z => nD z.1) (fun z => nD z.2) (fun _ => true) (fun z => nD z.1) (by decide) rfl (by omega) (fun z _ => rfl) (fun z _ _ => ⟨false, rfl⟩)
    have ht : ps.filter (fun _ => true) = ps := by simp
    rw [ht, rows_map] at e
    exact e
  have hc2 : (evR G (fnEval G 39) F39c2).f [.sh (fD n b), .sh (pD ps), .no, .no, .no] = .ok (.lst ((ps.filter fun z => !decide (z.2 ≤ 1)).map fun z => nD z.2), true) [.sh (fD n b), .sh (pD ps), .no, .no, .no] :=
    comp_pairs (G := G) (call := fnEval G 39) (el := .var 3) (it := .var 1) (c := .not (.call 0 (.cons (.var 3) (.cons (.lit (.int 0)) (.cons (.lit (.int 1)) .nil))))) (v := 2) (w := 3) (s := "k") (t := "v") (e := [.sh (fD n b), .sh (pD ps), .no, .no, .no]) (e1 := [.sh (fD n b), .sh (pD ps), .no, .no, .no]) ps (fun z => nD z.1) (fun z => nD z.2) (fun z => !decide (z.2 ≤ 1)) (fun z => nD z.2) (by decide) rfl (by omega) (fun z hz => by
      have i := num 39 z.2 0 1 (by omega)
      simp [i, exR, evR, lineOk, sizeLine_eq, ofX, ofF, noR, R.out, R.bind, R.of, with1, with2, withs, Bor.res, Bor.frz, ress, frzs, bl2, dat, Sl.get?, Sl.frz, mkSl, Out.res, Res.put, mkArgs, ioAt, doCall, putIos, nd0, nd1, ndl, ndc, nAdd, nSub, nMul, nDiv, nMod, nShl, nShr, nAnd, nXor, nPow, sAdd, lAdd, rAdd, tAdd, lMul, sMul, cEqN, cEqS, cEqB, cNeN, cNeS, cNeB, cLt, cLe, cGt, cGe, cIs, cIsN, isNonN, isNonS, isNonL, isNonR, isNonT, isNonB, isNon0, inS, ninS, tN, tB, tL, tT, tR, t0, bLenL, bLenT, bLenR, bLenS, bIntN, bMin, bMax, bSum, bLstL, bLstT, bTupL, bTupT, ixL, ixT, ixR, ixS, isiN, isiR, flatN, flatR, mutN, mutR, itR, itL, itT, itS, cNilR, cNilN, cNilL, cNilM, meTyJ, inR, ninR, flat0, flatB, flatI, flatS, flatF, flatL, flatT, flatD, mut0, mutB, mutI, mutS, mutF, mutL, mutT, mutD, isi0, isiB, isiI, isiS, isiL, isiT, isiDc, muOk, muTyR, muTyL, muAR, muAL, rMul, setR, bAbs]) (fun z _ hw => ⟨false, rfl⟩)
  have ne : ps.any (fun z => !decide (z.2 ≤ 1)) = true → (((ps.filter fun z => !decide (z.2 ≤ 1)).map fun z => nD z.2).isEmpty) = false := fun h => by
    obtain ⟨z, hz, h2⟩ := List.any_eq_true.mp h
    cases hq : ps.filter (fun z => !decide (z.2 ≤ 1)) with
    | nil =>
      have := List.mem_filter (p := fun z : Nat × Nat => !decide (z.2 ≤ 1)).mpr ⟨hz, h2⟩
      rw [hq] at this
      cases this
    | cons a l => rfl
  refine go_expr (Is _) (x := (.non, false)) (e1 := [.sh (fD n b), .sh (pD ps), .no, .no, .no]) (by simp [c1, exR, evR, lineOk, sizeLine_eq, ofX, ofF, noR, R.out, R.bind, R.of, with1, with2, withs, Bor.res, Bor.frz, ress, frzs, bl2, dat, Sl.get?, Sl.frz, mkSl, Out.res, Res.put, mkArgs, ioAt, doCall, putIos, nd0, nd1, ndl, ndc, nAdd, nSub, nMul, nDiv, nMod, nShl, nShr, nAnd, nXor, nPow, sAdd, lAdd, rAdd, tAdd, lMul, sMul, cEqN, cEqS, cEqB, cNeN, cNeS, cNeB, cLt, cLe, cGt, cGe, cIs, cIsN, isNonN, isNonS, isNonL, isNonR, isNonT, isNonB, isNon0, inS, ninS, tN, tB, tL, tT, tR, t0, bLenL, bLenT, bLenR, bLenS, bIntN, bMin, bMax, bSum, bLstL, bLstT, bTupL, bTupT, ixL, ixT, ixR, ixS, isiN, isiR, flatN, flatR, mutN, mutR, itR, itL, itT, itS, cNilR, cNilN, cNilL, cNilM, meTyJ, inR, ninR, flat0, flatB, flatI, flatS, flatF, flatL, flatT, flatD, mut0, mutB, mutI, mutS, mutF, mutL, mutT, mutD, isi0, isiB, isiI, isiS, isiL, isiT, isiDc, muOk, muTyR, muTyL, muAR, muAL, rMul, setR, bAbs]) ?_
  have isl : ∀ t, isiD (pD ps) t = some (decide (t = .list)) := fun t => by cases t <;> rfl
  refine go_ff (Is _) (e1 := [.sh (fD n b), .sh (pD ps), .no, .no, .no]) (by simp [hc0, isl, exR, evR, lineOk, sizeLine_eq, ofX, ofF, noR, R.out, R.bind, R.of, with1, with2, withs, Bor.res, Bor.frz, ress, frzs, bl2, dat, Sl.get?, Sl.frz, mkSl, Out.res, Res.put, mkArgs, ioAt, doCall, putIos, nd0, nd1, ndl, ndc, nAdd, nSub, nMul, nDiv, nMod, nShl, nShr, nAnd, nXor, nPow, sAdd, lAdd, rAdd, tAdd, lMul, sMul, cEqN, cEqS, cEqB, cNeN, cNeS, cNeB, cLt, cLe, cGt, cGe, cIs, cIsN, isNonN, isNonS, isNonL, isNonR, isNonT, isNonB, isNon0, inS, ninS, tN, tB, tL, tT, tR, t0, bLenL, bLenT, bLenR, bLenS, bIntN, bMin, bMax, bSum, bLstL, bLstT, bTupL, bTupT, ixL, ixT, ixR, ixS, isiN, isiR, flatN, flatR, mutN, mutR, itR, itL, itT, itS, cNilR, cNilN, cNilL, cNilM, meTyJ, inR, ninR, flat0, flatB, flatI, flatS, flatF, flatL, flatT, flatD, mut0, mutB, mutI, mutS, mutF, mutL, mutT, mutD, isi0, isiB, isiI, isiS, isiL, isiT, isiDc, muOk, muTyR, muTyL, muAR, muAL, rMul, setR, bAbs]) ?_
  have i0 := ixF0 n b
  have sb := nSub (a := n) (b := 1) hn1
  refine go_tt_er (Is _) (e1 := [.sh (fD n b), .sh (pD ps), .no, .no, .no]) (n := 2) (e2 := [.sh (fD n b), .sh (pD ps), .no, .no, .no]) ?_ rfl rfl
  generalize ((ps.filter fun z => !decide (z.2 ≤ 1)).map fun z => nD z.2) = zs at hc2 ne
  generalize rowsD (ps.map (·.1)) = rs at hc1 hr
  cases r with
  | false => simp [hc1, hr, sb, i0, exR, evR, lineOk, sizeLine_eq, ofX, ofF, noR, R.out, R.bind, R.of, with1, with2, withs, Bor.res, Bor.frz, ress, frzs, bl2, dat, Sl.get?, Sl.frz, mkSl, Out.res, Res.put, mkArgs, ioAt, doCall, putIos, nd0, nd1, ndl, ndc, nAdd, nSub, nMul, nDiv, nMod, nShl, nShr, nAnd, nXor, nPow, sAdd, lAdd, rAdd, tAdd, lMul, sMul, cEqN, cEqS, cEqB, cNeN, cNeS, cNeB, cLt, cLe, cGt, cGe, cIs, cIsN, isNonN, isNonS, isNonL, isNonR, isNonT, isNonB, isNon0, inS, ninS, tN, tB, tL, tT, tR, t0, bLenL, bLenT, bLenR, bLenS, bIntN, bMin, bMax, bSum, bLstL, bLstT, bTupL, bTupT, ixL, ixT, ixR, ixS, isiN, isiR, flatN, flatR, mutN, mutR, itR, itL, itT, itS, cNilR, cNilN, cNilL, cNilM, meTyJ, inR, ninR, flat0, flatB, flatI, flatS, flatF, flatL, flatT, flatD, mut0, mutB, mutI, mutS, mutF, mutL, mutT, mutD, isi0, isiB, isiI, isiS, isiL, isiT, isiDc, muOk, muTyR, muTyL, muAR, muAL, rMul, setR, bAbs]
  | true =>
    have ne := ne (by simpa using hbad)
    simp [hc1, hc2, hr, sb, i0, ne, -List.isEmpty_iff, -List.isEmpty_eq_false_iff, exR, evR, lineOk, sizeLine_eq, ofX, ofF, noR, R.out, R.bind, R.of, with1, with2, withs, Bor.res, Bor.frz, ress, frzs, bl2, dat, Sl.get?, Sl.frz, mkSl, Out.res, Res.put, mkArgs, ioAt, doCall, putIos, nd0, nd1, ndl, ndc, nAdd, nSub, nMul, nDiv, nMod, nShl, nShr, nAnd, nXor, nPow, sAdd, lAdd, rAdd, tAdd, lMul, sMul, cEqN, cEqS, cEqB, cNeN, cNeS, cNeB, cLt, cLe, cGt, cGe, cIs, cIsN, isNonN, isNonS, isNonL, isNonR, isNonT, isNonB, isNon0, inS, ninS, tN, tB, tL, tT, tR, t0, bLenL, bLenT, bLenR, bLenS, bIntN, bMin, bMax, bSum, bLstL, bLstT, bTupL, bTupT, ixL, ixT, ixR, ixS, isiN, isiR, flatN, flatR, mutN, mutR, itR, itL, itT, itS, cNilR, cNilN, cNilL, cNilM, meTyJ, inR, ninR, flat0, flatB, flatI, flatS, flatF, flatL, flatT, flatD, mut0, mutB, mutI, mutS, mutF, mutL, mutT, mutD, isi0, isiB, isiI, isiS, isiL, isiT, isiDc, muOk, muTyR, muTyL, muAR, muAL, rMul, setR, bAbs]
theorem rise00 : ∀ h, h < 6 → isEr 7 (match (fnEval G 39 2 [.sh (rowsD [0, 0]), .sh (nD 0), .sh (nD h)]).res with | .ok (.bl false) false => .er 7 | r => r) = true := by decide +kernel
theorem rise00' (h : Nat) (hh : h < 6) : (fnEval G 39 2 [.sh (rowsD [0, 0]), .sh (nD 0), .sh (nD h)]).res = .ok (.bl false) false := by
  have := rise00 h hh
  split at this
  · assumption
  · rename_i r hne
    exfalso
    have e := er_of this
    cases hq : (fnEval G 39 2 [.sh (rowsD [0, 0]), .sh (nD 0), .sh (nD h)]) with
    | ok d fr e2 =>
      rw [hq] at e
      cases e
    | st =>
      rw [hq] at e
      cases e
    | er c e2 =>
      have : (fnEval G 39 2 [.sh (rowsD [0, 0]), .sh (nD 0), .sh (nD h)]).res = .ok (.bl false) false := by
        have hh' : h = 0 ∨ h = 1 ∨ h = 2 ∨ h = 3 ∨ h = 4 ∨ h = 5 := by omega
        rcases hh' with rfl | rfl | rfl | rfl | rfl | rfl <;> kernel_rfl
      exact hne this
theorem f16_er : (fnEval G 40 16 [.sh (nD 1), .sh (.lst [nD 1, nD 0])]).res = .er 2 := er_of (by decide +kernel)
theorem f18_all : ∀ n, n < 7 → 1 ≤ n → isEr 2 (fnEval G 40 18 [.sh (nD n), .sh (nD n)]).res = true := by decide +kernel
def nones (n : Nat) (a : Nat → Bool) : List (Nat × D × D) := [(12, fD n a, nD (2 ^ n)), (12, fD n a, .bl true), (22, fD n a, fD (n - 1) fun _ => false), (36, fD n a, nD n), (39, fD n a, pD [(0, 2)]), (39, fD n a, pD [(0, 1), (0, 1)]), (16, nD 1, .lst [nD 1, nD 0]), (18, nD n, nD n)]
theorem nones_er {n : Nat} (hn : n ≤ 6) (hn1 : 1 ≤ n) (a : Nat → Bool) (z : Nat × D × D) (hz : z ∈ nones n a) : (fnEval G 40 z.1 [.sh z.2.1, .sh z.2.2]).res = .er 2 := by
  have p1 : 0 < 2 ^ n := Nat.pow_pos (by decide)
  simp only [nones, List.mem_cons, List.not_mem_nil, or_false] at hz
  rcases hz with rfl | rfl | rfl | rfl | rfl | rfl | rfl | rfl
  · exact f12_er n (by omega) a _ (chk_er 38 (2 ^ n) 0 (2 ^ n - 1) (by omega) (by omega))
  · exact f12_er n (by omega) a _ (chk_erB 38 0 (2 ^ n - 1) (by omega))
  · exact f22_er n (n - 1) (by omega) (by omega) (by omega) a _
  · exact f36_er n (by omega) hn1 a
  · exact f39_er (by omega) hn1 a [(0, 2)] (by simp) true (rise_ok 39 [0] (n - 1) (by simp) (by simp) (by simp) (by omega)) (.inr rfl)
  · exact f39_er (by omega) hn1 a [(0, 1), (0, 1)] (by simp) false (rise00' (n - 1) (by omega)) (.inl rfl)
  · exact f16_er
  · exact er_of (f18_all n (by omega) hn1)
end K00
namespace EV
open PySem
section
variable {G : Cfg} {k : Nat}
theorem mk_dats : ∀ (ds : List D) (e : Ev), mkArgs e [] (ds.map .dat) = some (ds.map .sh, e)
  | [], e => rfl
  | d :: ds, e => by
    show (mkArgs e [] (ds.map .dat)).map (fun z => (Sl.sh d :: z.1, z.2)) = _
    rw [mk_dats ds e]
    rfl
/-- a call, every argument data -/
theorem callD {f : Nat} {fi : Fn} {xs : SE} {e e1 : Ev} {d : D} {fr : Bool} (ds : List D) (hf : G.fns[f]? = some fi) (hio : fi.io = []) (hn : fi.np = (ds.map Bor.dat).length) (hb : (evR G (fnEval G k) xs).bs e = .ok (ds.map .dat) e1) (hr : (fnEval G k f (ds.map .sh)).res = .ok d fr) :
    (evR G (fnEval G k) (.call f xs)).f e = .ok (d, fr) e1 := by
  rw [call_f hb, go_pure _ _ _ hf hio hn, mk_dats]
  show ((fnEval G k f (ds.map .sh)).res).put e1 e1 = _
  rw [hr]
  show R.ok (d, fr) (if d.flat = true then e1 else e1) = _
  rw [ite_self]
theorem callDb {f : Nat} {fi : Fn} {xs : SE} {e e1 : Ev} {d : D} {fr : Bool} (ds : List D) (hf : G.fns[f]? = some fi) (hio : fi.io = []) (hn : fi.np = (ds.map Bor.dat).length) (hb : (evR G (fnEval G k) xs).bs e = .ok (ds.map .dat) e1) (hr : (fnEval G k f (ds.map .sh)).res = .ok d fr) :
    (evR G (fnEval G k) (.call f xs)).b e = .ok (.dat d) e1 := call_b (callD ds hf hio hn hb hr)
/-- not the same: no -/
theorem leq_ff {q : Nat} {nm : Str} {N : List Str} {bq : SS} {A B : SE} {e e1 e2 : Ev} {x y : Bor} (d : D) (hq : G.fns[q]? = some ⟨nm, 2, N, [], bq⟩) (hA : (evR G (fnEval G k) A).b e = .ok x e1) (hB : (evR G (fnEval G k) B).b e1 = .ok y e2) (rA : x.res e2 = some d) (rB : y.res (x.frz e2) = some d) (h : (fnEval G k q [.sh d, .sh d]).res = .ok (.bl true) false) :
    (evR G (fnEval G k) (.not (.call q (.cons A (.cons B .nil))))).t e = .ok false e2 := by
  have hc : (evR G (fnEval G k) (.call q (.cons A (.cons B .nil)))).f e = .ok (.bl true, false) e2 := by
    rw [call_f (cons_bs hA (cons_bs hB nil_bs)), go_pure _ _ _ hq rfl rfl]
    have hm : mkArgs e2 [] [x, y] = some ([.sh d, .sh d], y.frz (x.frz e2)) := by
      simp only [mkArgs, rA, rB, Option.map_some]
    rw [hm]
    show ((fnEval G k q [.sh d, .sh d]).res).put _ _ = _
    rw [h]
    rfl
  show (((evR G (fnEval G k) (.call q (.cons A (.cons B .nil)))).f e).bind fun x e1 => R.of (truD x.1) e1).bind _ = _
  rw [hc]
  rfl
theorem or_ff {X Y : SE} {call : Nat → List Sl → FR} {e e1 e2 : Ev} (h1 : (evR G call X).t e = .ok false e1) (h2 : (evR G call Y).t e1 = .ok false e2) : (evR G call (.or X Y)).t e = .ok false e2 := by
  show (((evR G call X).t e).bind fun k e1 => match k with
      | true => .ok true e1
      | false => (evR G call Y).t e1) = _
  rw [h1]
  exact h2
theorem lrng1_f {call : Nat → List Sl → FR} {a : SE} {e e1 : Ev} {n : Nat} {fr : Bool} (h : (evR G call a).f e = .ok (nD n, fr) e1) (hn : n ≤ 8388608) : (evR G call (.lrng1 a)).f e = .ok (rowsD (List.range n), true) e1 := by
  show (((evR G call a).f e).bind fun x e1 => match x.1 with
      | .int j => if Nat.ble j.natAbs 8388608 then R.ok (D.lst (rngL 0 j.toNat), true) e1 else .st
      | _ => .st) = _
  rw [h]
  show (if Nat.ble (n : Int).natAbs 8388608 = true then R.ok (D.lst (rngL 0 (n : Int).toNat), true) e1 else .st) = _
  rw [if_pos (Nat.ble_eq_true_of_le (by rw [Int.natAbs_natCast]; exact hn)), Int.toNat_natCast, rng_range]
  rfl
theorem tup_b {call : Nat → List Sl → FR} {xs : SE} {e e1 : Ev} {ds : List D} (h : (evR G call xs).bs e = .ok (ds.map .dat) e1) (h3 : ds.length ≤ 1000000) : (evR G call (.tup xs)).b e = .ok (.dat (.tup ds)) e1 := by
  have hr : ∀ (ds : List D) (e : Ev), ress e (ds.map Bor.dat) = some ds := fun ds e => by
    induction ds with
    | nil => rfl
    | cons d ds ih => simp [ress, ih, Bor.res]
  have hz : ∀ (ds : List D) (e : Ev), frzs e (ds.map Bor.dat) = e := fun ds e => by
    induction ds with
    | nil => rfl
    | cons d ds ih => exact ih
  have := tup_f h (hr ds e1) (by rw [sizeLine_eq]; omega)
  show ((evR G call (.tup xs)).f e).bind _ = _
  rw [this, hz]
  rfl
end
end EV
namespace K00
open PySem EV
variable (s0 s1 s2 s3 s4 s5 s6 s7 s8 s9 s10 s11 s12 s13 s14 s15 s16 s17 s18 s19 s20 s21 s22 s23 s24 s25 s26 s27 s28 s29 s30 : Sl)
theorem l2 {n : Nat} (hn : n ≤ 10) (a : Nat → Bool) : ∃ x, (exR G (fnEval G 40) [] F51l2).x [s0, s1, .sh (nD n), s3, s4, s5, s6, s7, s8, s9, s10, s11, s12, s13, .sh (fD n a), s15, s16, s17, s18, s19, s20, s21, s22, s23, s24, s25, s26, s27, s28, s29, s30] = .nx [s0, s1, .sh (nD n), s3, s4, s5, s6, s7, s8, s9, s10, s11, x, s13, .sh (fD n a), s15, s16, s17, s18, s19, s20, s21, s22, s23, s24, s25, s26, s27, s28, s29, s30] := by
  obtain ⟨e', k1, x, k2⟩ := for_thru (tg := .nm 12) (body := (exR G (fnEval G 40) [] F51b2).x) (fun i e => ∃ x, e = [s0, s1, .sh (nD n), s3, s4, s5, s6, s7, s8, s9, s10, s11, x, s13, .sh (fD n a), s15, s16, s17, s18, s19, s20, s21, s22, s23, s24, s25, s26, s27, s28, s29, s30]) (bads n a) 0 [s0, s1, .sh (nD n), s3, s4, s5, s6, s7, s8, s9, s10, s11, s12, s13, .sh (fD n a), s15, s16, s17, s18, s19, s20, s21, s22, s23, s24, s25, s26, s27, s28, s29, s30] ⟨_, rfl⟩ fun j d e hj ⟨x, hx⟩ => by
    subst hx
    have er := bads_er hn a d (List.mem_of_getElem? hj)
    refine ⟨[s0, s1, .sh (nD n), s3, s4, s5, s6, s7, s8, s9, s10, s11, .sh d, s13, .sh (fD n a), s15, s16, s17, s18, s19, s20, s21, s22, s23, s24, s25, s26, s27, s28, s29, s30], [s0, s1, .sh (nD n), s3, s4, s5, s6, s7, s8, s9, s10, s11, .sh d, s13, .sh (fD n a), s15, s16, s17, s18, s19, s20, s21, s22, s23, s24, s25, s26, s27, s28, s29, s30], rfl, .inl ?_, .sh d, rfl⟩
    have c : (evR G (fnEval G 40) (.call 20 (.cons (.var 12) .nil))).f [s0, s1, .sh (nD n), s3, s4, s5, s6, s7, s8, s9, s10, s11, .sh d, s13, .sh (fD n a), s15, s16, s17, s18, s19, s20, s21, s22, s23, s24, s25, s26, s27, s28, s29, s30] = .er 1 [s0, s1, .sh (nD n), s3, s4, s5, s6, s7, s8, s9, s10, s11, .sh d, s13, .sh (fD n a), s15, s16, s17, s18, s19, s20, s21, s22, s23, s24, s25, s26, s27, s28, s29, s30] := by
      rw [call_f (bs := [.dat d]) (e1 := [s0, s1, .sh (nD n), s3, s4, s5, s6, s7, s8, s9, s10, s11, .sh d, s13, .sh (fD n a), s15, s16, s17, s18, s19, s20, s21, s22, s23, s24, s25, s26, s27, s28, s29, s30]) rfl, go20]
      show ((fnEval G 40 20 [.sh d]).res).put _ _ = _
      rw [er]
      rfl
    have h3 : (exR G (fnEval G 40) [] (.hnd 1 (.seq .skip .skip) .skip)).h 1 [s0, s1, .sh (nD n), s3, s4, s5, s6, s7, s8, s9, s10, s11, .sh d, s13, .sh (fD n a), s15, s16, s17, s18, s19, s20, s21, s22, s23, s24, s25, s26, s27, s28, s29, s30] = .nx [s0, s1, .sh (nD n), s3, s4, s5, s6, s7, s8, s9, s10, s11, .sh d, s13, .sh (fD n a), s15, s16, s17, s18, s19, s20, s21, s22, s23, s24, s25, s26, s27, s28, s29, s30] := hnd_ok (by decide) (by decide) rfl
    have h4 : (exR G (fnEval G 40) [] (.tryS (.seq (.expr (.call 20 (.cons (.var 12) .nil))) (.seq (.ret (.lit (.bl false))) .skip)) (.hnd 1 (.seq .skip .skip) .skip))).x [s0, s1, .sh (nD n), s3, s4, s5, s6, s7, s8, s9, s10, s11, .sh d, s13, .sh (fD n a), s15, s16, s17, s18, s19, s20, s21, s22, s23, s24, s25, s26, s27, s28, s29, s30] = .nx [s0, s1, .sh (nD n), s3, s4, s5, s6, s7, s8, s9, s10, s11, .sh d, s13, .sh (fD n a), s15, s16, s17, s18, s19, s20, s21, s22, s23, s24, s25, s26, s27, s28, s29, s30] := (try_er (seq_er (expr_er c))).trans h3
    unfold F51b2
    rw [seq_nx h4]
    rfl
  subst k2
  refine ⟨x, ?_⟩
  unfold F51l2
  refine for_nx rfl ?_ k1
  have p2 := p2le hn
  have i1 := ixF1 n a
  have ad := sAdd (a := tx n a) (b := [48]) (by rw [tx_len]; simp; omega)
  have u : unD .USub (nD 1) = some (.int (-1)) := rfl
  generalize fD n a = f at i1 ⊢
  simp only [bads]
  generalize tx n a ++ [48] = s at ad ⊢
  simp [i1, ad, u, exR, evR, lineOk, sizeLine_eq, ofX, ofF, noR, R.out, R.bind, R.of, with1, with2, withs, Bor.res, Bor.frz, ress, frzs, bl2, dat, Sl.get?, Sl.frz, mkSl, Out.res, Res.put, mkArgs, ioAt, doCall, putIos, nd0, nd1, ndl, ndc, nAdd, nSub, nMul, nDiv, nMod, nShl, nShr, nAnd, nXor, nPow, sAdd, lAdd, rAdd, tAdd, lMul, sMul, cEqN, cEqS, cEqB, cNeN, cNeS, cNeB, cLt, cLe, cGt, cGe, cIs, cIsN, isNonN, isNonS, isNonL, isNonR, isNonT, isNonB, isNon0, inS, ninS, tN, tB, tL, tT, tR, t0, bLenL, bLenT, bLenR, bLenS, bIntN, bMin, bMax, bSum, bLstL, bLstT, bTupL, bTupT, ixL, ixT, ixR, ixS, isiN, isiR, flatN, flatR, mutN, mutR, itR, itL, itT, itS, cNilR, cNilN, cNilL, cNilM, meTyJ, inR, ninR, flat0, flatB, flatI, flatS, flatF, flatL, flatT, flatD, mut0, mutB, mutI, mutS, mutF, mutL, mutT, mutD, isi0, isiB, isiI, isiS, isiL, isiT, isiDc, muOk, muTyR, muTyL, muAR, muAL, rMul, setR, bAbs]
theorem l3 {n : Nat} (hn : n ≤ 6) (hn1 : 1 ≤ n) (a : Nat → Bool) : ∃ x y z, (exR G (fnEval G 40) [] F51l3).x [s0, s1, s2, s3, s4, s5, s6, s7, s8, s9, s10, s11, s12, .ow (.lst ((nones n a).map fun z => .tup [.fn z.1, z.2.1, z.2.2])), s14, s15, s16, s17, s18, s19, s20, s21, s22, s23, s24, s25, s26, s27, s28, s29, s30] = .nx [s0, s1, s2, s3, s4, s5, s6, s7, s8, s9, s10, s11, s12, .sh (.lst ((nones n a).map fun z => .tup [.fn z.1, z.2.1, z.2.2])), s14, s15, s16, x, y, s19, s20, s21, s22, s23, s24, s25, z, s27, s28, s29, s30] := by
  obtain ⟨e', k1, x, y, z, k2⟩ := for_thru (tg := .tp [26, 17, 18]) (body := (exR G (fnEval G 40) [] F51b3).x) (fun i e => ∃ x y z, e = [s0, s1, s2, s3, s4, s5, s6, s7, s8, s9, s10, s11, s12, .sh (.lst ((nones n a).map fun z => .tup [.fn z.1, z.2.1, z.2.2])), s14, s15, s16, x, y, s19, s20, s21, s22, s23, s24, s25, z, s27, s28, s29, s30]) ((nones n a).map fun z => .tup [.fn z.1, z.2.1, z.2.2]) 0 [s0, s1, s2, s3, s4, s5, s6, s7, s8, s9, s10, s11, s12, .sh (.lst ((nones n a).map fun z => .tup [.fn z.1, z.2.1, z.2.2])), s14, s15, s16, s17, s18, s19, s20, s21, s22, s23, s24, s25, s26, s27, s28, s29, s30] ⟨_, _, _, rfl⟩ fun j d e hj ⟨x, y, z, hx⟩ => by
    subst hx
    obtain ⟨w, hw, rfl⟩ := List.mem_map.mp (List.mem_of_getElem? hj)
    have er := nones_er hn hn1 a w hw
    have hfi : ∃ fi, G.fns[w.1]? = some fi ∧ fi.io = [] ∧ fi.np = 2 := by
      simp only [nones, List.mem_cons, List.not_mem_nil, or_false] at hw
      rcases hw with rfl | rfl | rfl | rfl | rfl | rfl | rfl | rfl <;> exact ⟨_, rfl, rfl, rfl⟩
    obtain ⟨fi, hfi, hio, hnp⟩ := hfi
    generalize Sl.sh (D.lst ((nones n a).map fun z => .tup [.fn z.1, z.2.1, z.2.2])) = s13
    obtain ⟨f, u, v⟩ := w
    simp only at er hfi ⊢
    refine ⟨[s0, s1, s2, s3, s4, s5, s6, s7, s8, s9, s10, s11, s12, s13, s14, s15, s16, .sh u, .sh v, s19, s20, s21, s22, s23, s24, s25, .sh (.fn f), s27, s28, s29, s30], [s0, s1, s2, s3, s4, s5, s6, s7, s8, s9, s10, s11, s12, s13, s14, s15, s16, .sh u, .sh v, s19, s20, s21, s22, s23, s24, s25, .sh (.fn f), s27, s28, s29, s30], rfl, .inl ?_, _, _, _, rfl⟩
    have c : (evR G (fnEval G 40) (.callv 26 (.cons (.var 17) (.cons (.var 18) .nil)))).f [s0, s1, s2, s3, s4, s5, s6, s7, s8, s9, s10, s11, s12, s13, s14, s15, s16, .sh u, .sh v, s19, s20, s21, s22, s23, s24, s25, .sh (.fn f), s27, s28, s29, s30] = .er 2 [s0, s1, s2, s3, s4, s5, s6, s7, s8, s9, s10, s11, s12, s13, s14, s15, s16, .sh u, .sh v, s19, s20, s21, s22, s23, s24, s25, .sh (.fn f), s27, s28, s29, s30] := by
      rw [callv_f (i := 26) (f := f) (fi := fi) (bs := [.dat u, .dat v]) (e1 := [s0, s1, s2, s3, s4, s5, s6, s7, s8, s9, s10, s11, s12, s13, s14, s15, s16, .sh u, .sh v, s19, s20, s21, s22, s23, s24, s25, .sh (.fn f), s27, s28, s29, s30]) rfl hfi rfl, go_pure _ [.dat u, .dat v] _ hfi hio hnp]
      show ((fnEval G 40 f [.sh u, .sh v]).res).put _ _ = _
      rw [er]
      rfl
    have h3 : (exR G (fnEval G 40) [] (.hnd 2 (.seq .skip .skip) .skip)).h 2 [s0, s1, s2, s3, s4, s5, s6, s7, s8, s9, s10, s11, s12, s13, s14, s15, s16, .sh u, .sh v, s19, s20, s21, s22, s23, s24, s25, .sh (.fn f), s27, s28, s29, s30] = .nx [s0, s1, s2, s3, s4, s5, s6, s7, s8, s9, s10, s11, s12, s13, s14, s15, s16, .sh u, .sh v, s19, s20, s21, s22, s23, s24, s25, .sh (.fn f), s27, s28, s29, s30] := hnd_ok (by decide) (by decide) rfl
    have h4 : (exR G (fnEval G 40) [] (.tryS (.seq (.expr (.callv 26 (.cons (.var 17) (.cons (.var 18) .nil)))) (.seq (.ret (.lit (.bl false))) .skip)) (.hnd 2 (.seq .skip .skip) .skip))).x [s0, s1, s2, s3, s4, s5, s6, s7, s8, s9, s10, s11, s12, s13, s14, s15, s16, .sh u, .sh v, s19, s20, s21, s22, s23, s24, s25, .sh (.fn f), s27, s28, s29, s30] = .nx [s0, s1, s2, s3, s4, s5, s6, s7, s8, s9, s10, s11, s12, s13, s14, s15, s16, .sh u, .sh v, s19, s20, s21, s22, s23, s24, s25, .sh (.fn f), s27, s28, s29, s30] := (try_er (seq_er (expr_er c))).trans h3
    unfold F51b3
    rw [seq_nx h4]
    rfl
  subst k2
  refine ⟨x, y, z, ?_⟩
  unfold F51l3
  exact for_nx rfl rfl k1
end K00
namespace K00
open PySem EV
theorem n44 : G.fns[44]? = some ⟨"_law_equal", 2, ["actual", "due"], [], bEq2 45⟩ := rfl
theorem n20 : G.fns[20]? = some f20 := rfl
theorem n22 : G.fns[22]? = some f22 := rfl
theorem n24 : G.fns[24]? = some f24 := rfl
theorem n26 : G.fns[26]? = some f26 := rfl
theorem n30 : G.fns[30]? = some f30 := rfl
theorem n29 : G.fns[29]? = some f29 := rfl
theorem n28 : G.fns[28]? = some f28 := rfl
theorem n12 : G.fns[12]? = some f12 := rfl
theorem n14 : G.fns[14]? = some f14 := rfl
theorem n33 : G.fns[33]? = some f33 := rfl
theorem n50 : G.fns[50]? = some f50 := rfl
theorem n17 : G.fns[17]? = some f17 := rfl
theorem n18 : G.fns[18]? = some f18 := rfl
theorem n35 : G.fns[35]? = some f35 := rfl
theorem n36 : G.fns[36]? = some f36 := rfl
theorem n37 : G.fns[37]? = some f37 := rfl
theorem n38 : G.fns[38]? = some f38 := rfl
def Go (e : Ev) (r : SS) : Prop := Ret ((exR G (fnEval G 40) [] r).x e)
theorem main : ∀ ns : List Int, ns.length ≤ 63 → ∃ fr e, fnEval G 41 51 [.sh (.scr ns)] = .ok (.bl true) fr e := by
  intro ns hns
  rw [fn_step (fi := f51) 40 _ rfl rfl]
  
  show Ret ((exR G (fnEval G 40) [] f51.body).x [.sh (.scr ns), .no, .no, .no, .no, .no, .no, .no, .no, .no, .no, .no, .no, .no, .no, .no, .no, .no, .no, .no, .no, .no, .no, .no, .no, .no, .no, .no, .no, .no, .no])
  obtain ⟨l, hs, hl, hnum⟩ := numbers_ok n41 n42 40 ns hns (by omega)
  refine go_asg Ret (x := (drD l 0, true)) (e1 := [.sh (.scr ns), .no, .no, .no, .no, .no, .no, .no, .no, .no, .no, .no, .no, .no, .no, .no, .no, .no, .no, .no, .no, .no, .no, .no, .no, .no, .no, .no, .no, .no, .no]) (by simp [hnum, drD, exR, evR, lineOk, sizeLine_eq, ofX, ofF, noR, R.out, R.bind, R.of, with1, with2, withs, Bor.res, Bor.frz, ress, frzs, bl2, dat, Sl.get?, Sl.frz, mkSl, Out.res, Res.put, mkArgs, ioAt, doCall, putIos, nd0, nd1, ndl, ndc, nAdd, nSub, nMul, nDiv, nMod, nShl, nShr, nAnd, nXor, nPow, sAdd, lAdd, rAdd, tAdd, lMul, sMul, cEqN, cEqS, cEqB, cNeN, cNeS, cNeB, cLt, cLe, cGt, cGe, cIs, cIsN, isNonN, isNonS, isNonL, isNonR, isNonT, isNonB, isNon0, inS, ninS, tN, tB, tL, tT, tR, t0, bLenL, bLenT, bLenR, bLenS, bIntN, bMin, bMax, bSum, bLstL, bLstT, bTupL, bTupT, ixL, ixT, ixR, ixS, isiN, isiR, flatN, flatR, mutN, mutR, itR, itL, itT, itS, cNilR, cNilN, cNilL, cNilM, meTyJ, inR, ninR, flat0, flatB, flatI, flatS, flatF, flatL, flatT, flatD, mut0, mutB, mutI, mutS, mutF, mutL, mutT, mutD, isi0, isiB, isiI, isiS, isiL, isiT, isiDc, muOk, muTyR, muTyL, muAR, muAL, rMul, setR, bAbs]) rfl ?_
  
  show Ret ((exR G (fnEval G 40) [] _).x [.sh (.scr ns), .ow (drD l 0), .no, .no, .no, .no, .no, .no, .no, .no, .no, .no, .no, .no, .no, .no, .no, .no, .no, .no, .no, .no, .no, .no, .no, .no, .no, .no, .no, .no, .no])
  obtain ⟨v, hv, q⟩ := dcall 40 1 l 0 6 hs hl (by omega) (by omega) (by omega) (.lit (.int 6)) [.sh (.scr ns), .ow (drD l 0), .no, .no, .no, .no, .no, .no, .no, .no, .no, .no, .no, .no, .no, .no, .no, .no, .no, .no, .no, .no, .no, .no, .no, .no, .no, .no, .no, .no, .no] rfl rfl
  have qb := call_b q
  
  refine go_asg Ret (x := (nD (1 + v), false)) (e1 := [.sh (.scr ns), .ow (drD l 1), .no, .no, .no, .no, .no, .no, .no, .no, .no, .no, .no, .no, .no, .no, .no, .no, .no, .no, .no, .no, .no, .no, .no, .no, .no, .no, .no, .no, .no]) (by
    show with2 (evR G (fnEval G 40) (.lit (.int 1))) (evR G (fnEval G 40) (.call 43 (.cons (.var 1) (.cons (.lit (.int 6)) .nil)))) _ _ = _
    unfold with2
    show ((evR G (fnEval G 40) (.call 43 (.cons (.var 1) (.cons (.lit (.int 6)) .nil)))).b _).bind _ = _
    rw [qb]
    rfl) rfl ?_
  have hn1 : 1 ≤ 1 + v := by omega
  have hn6 : 1 + v ≤ 6 := by omega
  generalize 1 + v = n at hn1 hn6 ⊢
  clear q qb hv
  have hn : n ≤ 10 := by omega
  have p2 := p2le hn
  have p1 : 0 < 2 ^ n := Nat.pow_pos (by decide)
  
  show Ret ((exR G (fnEval G 40) [] _).x [.sh (.scr ns), .ow (drD l 1), .sh (nD n), .no, .no, .no, .no, .no, .no, .no, .no, .no, .no, .no, .no, .no, .no, .no, .no, .no, .no, .no, .no, .no, .no, .no, .no, .no, .no, .no, .no])
  -- f, g, h
  obtain ⟨a, t1, h1, q1⟩ := fcall 40 1 l 1 n hs hl (by omega) hn (by omega) (.var 2) [.sh (.scr ns), .ow (drD l 1), .sh (nD n), .no, .no, .no, .no, .no, .no, .no, .no, .no, .no, .no, .no, .no, .no, .no, .no, .no, .no, .no, .no, .no, .no, .no, .no, .no, .no, .no, .no] rfl rfl
  obtain ⟨b, t2, h2, q2⟩ := fcall 40 1 l t1 n hs hl (by omega) hn (by omega) (.var 2) [.sh (.scr ns), .ow (drD l t1), .sh (nD n), .no, .no, .no, .no, .no, .no, .no, .no, .no, .no, .no, .no, .no, .no, .no, .no, .no, .no, .no, .no, .no, .no, .no, .no, .no, .no, .no, .no] rfl rfl
  obtain ⟨c, t3, h3, q3⟩ := fcall 40 1 l t2 n hs hl (by omega) hn (by omega) (.var 2) [.sh (.scr ns), .ow (drD l t2), .sh (nD n), .no, .no, .no, .no, .no, .no, .no, .no, .no, .no, .no, .no, .no, .no, .no, .no, .no, .no, .no, .no, .no, .no, .no, .no, .no, .no, .no, .no] rfl rfl
  have ht3 : t3 ≤ 4000 := by omega
  clear h1 h2 h3
  refine go_asgT Ret (x := (.tup [fD n a, fD n b, fD n c], false)) (e1 := [.sh (.scr ns), .ow (drD l t3), .sh (nD n), .no, .no, .no, .no, .no, .no, .no, .no, .no, .no, .no, .no, .no, .no, .no, .no, .no, .no, .no, .no, .no, .no, .no, .no, .no, .no, .no, .no]) (e2 := [.sh (.scr ns), .ow (drD l t3), .sh (nD n), .no, .no, .no, .no, .no, .no, .no, .no, .no, .no, .no, .sh (fD n a), .sh (fD n b), .sh (fD n c), .no, .no, .no, .no, .no, .no, .no, .no, .no, .no, .no, .no, .no, .no]) (tup_f (cons_bs (call_b q1) (cons_bs (call_b q2) (cons_bs (call_b q3) nil_bs))) rfl (by simp [sizeLine_eq])) rfl rfl ?_
  clear q1 q2 q3
  
  -- size
  refine go_asg Ret (x := (nD (2 ^ n), false)) (e1 := [.sh (.scr ns), .ow (drD l t3), .sh (nD n), .no, .no, .no, .no, .no, .no, .no, .no, .no, .no, .no, .sh (fD n a), .sh (fD n b), .sh (fD n c), .no, .no, .no, .no, .no, .no, .no, .no, .no, .no, .no, .no, .no, .no]) (by
    have sh := nShl (b := n) 1 (by decide) (by omega)
    rw [Nat.one_mul] at sh
    show R.of (binD .LShift (nD 1) (nD n)) _ = _
    rw [sh]
    rfl) rfl ?_
  
  show Ret ((exR G (fnEval G 40) [] _).x [.sh (.scr ns), .ow (drD l t3), .sh (nD n), .sh (nD (2 ^ n)), .no, .no, .no, .no, .no, .no, .no, .no, .no, .no, .sh (fD n a), .sh (fD n b), .sh (fD n c), .no, .no, .no, .no, .no, .no, .no, .no, .no, .no, .no, .no, .no, .no])
  -- one, two, three
  have b0 : (evR G (fnEval G 40) F51c0).b [.sh (.scr ns), .ow (drD l t3), .sh (nD n), .sh (nD (2 ^ n)), .no, .no, .no, .no, .no, .no, .no, .no, .no, .no, .sh (fD n a), .sh (fD n b), .sh (fD n c), .no, .no, .no, .no, .no, .no, .no, .no, .no, .no, .no, .no, .no, .no] = .ok (.dat (bD n a)) [.sh (.scr ns), .ow (drD l t3), .sh (nD n), .sh (nD (2 ^ n)), .no, .no, .no, .no, .no, .no, .no, .no, .no, .no, .sh (fD n a), .sh (fD n b), .sh (fD n c), .no, .no, .no, .no, .no, .no, .no, .no, .no, .no, .no, .no, .no, .no] := by
    rw [F51c0_b, g0 (hn := hn)]
    rfl
  have b1 : (evR G (fnEval G 40) F51c1).b [.sh (.scr ns), .ow (drD l t3), .sh (nD n), .sh (nD (2 ^ n)), .no, .no, .no, .no, .no, .no, .no, .no, .no, .no, .sh (fD n a), .sh (fD n b), .sh (fD n c), .no, .no, .no, .no, .no, .no, .no, .no, .no, .no, .no, .no, .no, .no] = .ok (.dat (bD n b)) [.sh (.scr ns), .ow (drD l t3), .sh (nD n), .sh (nD (2 ^ n)), .no, .no, .no, .no, .no, .no, .no, .no, .no, .no, .sh (fD n a), .sh (fD n b), .sh (fD n c), .no, .no, .no, .no, .no, .no, .no, .no, .no, .no, .no, .no, .no, .no] := by
    rw [F51c1_b, g1 (hn := hn)]
    rfl
  have b2 : (evR G (fnEval G 40) F51c2).b [.sh (.scr ns), .ow (drD l t3), .sh (nD n), .sh (nD (2 ^ n)), .no, .no, .no, .no, .no, .no, .no, .no, .no, .no, .sh (fD n a), .sh (fD n b), .sh (fD n c), .no, .no, .no, .no, .no, .no, .no, .no, .no, .no, .no, .no, .no, .no] = .ok (.dat (bD n c)) [.sh (.scr ns), .ow (drD l t3), .sh (nD n), .sh (nD (2 ^ n)), .no, .no, .no, .no, .no, .no, .no, .no, .no, .no, .sh (fD n a), .sh (fD n b), .sh (fD n c), .no, .no, .no, .no, .no, .no, .no, .no, .no, .no, .no, .no, .no, .no] := by
    rw [F51c2_b, g2 (hn := hn)]
    rfl
  refine go_asgT Ret (x := (.tup [bD n a, bD n b, bD n c], false)) (e1 := [.sh (.scr ns), .ow (drD l t3), .sh (nD n), .sh (nD (2 ^ n)), .no, .no, .no, .no, .no, .no, .no, .no, .no, .no, .sh (fD n a), .sh (fD n b), .sh (fD n c), .no, .no, .no, .no, .no, .no, .no, .no, .no, .no, .no, .no, .no, .no]) (e2 := [.sh (.scr ns), .ow (drD l t3), .sh (nD n), .sh (nD (2 ^ n)), .no, .no, .no, .no, .no, .no, .no, .no, .no, .no, .sh (fD n a), .sh (fD n b), .sh (fD n c), .sh (bD n a), .sh (bD n b), .sh (bD n c), .no, .no, .no, .no, .no, .no, .no, .no, .no, .no, .no]) (tup_f (cons_bs b0 (cons_bs b1 (cons_bs b2 nil_bs))) rfl (by simp [sizeLine_eq])) rfl rfl ?_
  clear b0 b1 b2
  
  -- places
  refine go_asg Ret (x := (plD n, true)) (e1 := [.sh (.scr ns), .ow (drD l t3), .sh (nD n), .sh (nD (2 ^ n)), .no, .no, .no, .no, .no, .no, .no, .no, .no, .no, .sh (fD n a), .sh (fD n b), .sh (fD n c), .sh (bD n a), .sh (bD n b), .sh (bD n c), .no, .no, .no, .no, .no, .no, .no, .no, .no, .no, .no]) (lrng1_f (n := 2 ^ n) (fr := false) rfl (by omega)) rfl ?_
  
  show Ret ((exR G (fnEval G 40) [] _).x [.sh (.scr ns), .ow (drD l t3), .sh (nD n), .sh (nD (2 ^ n)), .ow (plD n), .no, .no, .no, .no, .no, .no, .no, .no, .no, .sh (fD n a), .sh (fD n b), .sh (fD n c), .sh (bD n a), .sh (bD n b), .sh (bD n c), .no, .no, .no, .no, .no, .no, .no, .no, .no, .no, .no])
  -- due
  have d3 : (evR G (fnEval G 40) F51c3).b [.sh (.scr ns), .ow (drD l t3), .sh (nD n), .sh (nD (2 ^ n)), .ow (plD n), .no, .no, .no, .no, .no, .no, .no, .no, .no, .sh (fD n a), .sh (fD n b), .sh (fD n c), .sh (bD n a), .sh (bD n b), .sh (bD n c), .no, .no, .no, .no, .no, .no, .no, .no, .no, .no, .no] = .ok (.dat (bD n fun p => !a p)) [.sh (.scr ns), .ow (drD l t3), .sh (nD n), .sh (nD (2 ^ n)), .ow (plD n), .no, .no, .no, .no, .no, .no, .no, .no, .no, .sh (fD n a), .sh (fD n b), .sh (fD n c), .sh (bD n a), .sh (bD n b), .sh (bD n c), .no, .no, .no, .no, .no, .no, .no, .no, .no, .no, .no] := by
    rw [F51c3_b, g3 (hn := hn)]
    rfl
  have d4 : (evR G (fnEval G 40) F51c4).b [.sh (.scr ns), .ow (drD l t3), .sh (nD n), .sh (nD (2 ^ n)), .ow (plD n), .no, .no, .no, .no, .no, .no, .no, .no, .no, .sh (fD n a), .sh (fD n b), .sh (fD n c), .sh (bD n a), .sh (bD n b), .sh (bD n c), .no, .no, .no, .no, .no, .no, .no, .no, .no, .no, .no] = .ok (.dat (bD n fun p => a p && b p)) [.sh (.scr ns), .ow (drD l t3), .sh (nD n), .sh (nD (2 ^ n)), .sh (plD n), .no, .no, .no, .no, .no, .no, .no, .no, .no, .sh (fD n a), .sh (fD n b), .sh (fD n c), .sh (bD n a), .sh (bD n b), .sh (bD n c), .no, .no, .no, .no, .no, .no, .no, .no, .no, .no, .no] := by
    rw [F51c4_b, g4 (hn := hn)]
    rfl
  have t3b := tup_b (ds := [fD n fun p => !a p, bD n fun p => !a p]) (cons_bs (callDb (xs := .cons (.var 14) .nil) (e := [.sh (.scr ns), .ow (drD l t3), .sh (nD n), .sh (nD (2 ^ n)), .ow (plD n), .no, .no, .no, .no, .no, .no, .no, .no, .no, .sh (fD n a), .sh (fD n b), .sh (fD n c), .sh (bD n a), .sh (bD n b), .sh (bD n c), .no, .no, .no, .no, .no, .no, .no, .no, .no, .no, .no]) [fD n a] n20 rfl rfl rfl (f20_ok 40 hn a (by omega))) (cons_bs d3 nil_bs)) (by simp)
  have t4b := tup_b (ds := [fD n fun p => a p && b p, bD n fun p => a p && b p]) (cons_bs (callDb (xs := .cons (.var 14) (.cons (.var 15) .nil)) (e := [.sh (.scr ns), .ow (drD l t3), .sh (nD n), .sh (nD (2 ^ n)), .ow (plD n), .no, .no, .no, .no, .no, .no, .no, .no, .no, .sh (fD n a), .sh (fD n b), .sh (fD n c), .sh (bD n a), .sh (bD n b), .sh (bD n c), .no, .no, .no, .no, .no, .no, .no, .no, .no, .no, .no]) [fD n a, fD n b] n22 rfl rfl rfl (f22_ok 40 hn a b (by omega))) (cons_bs d4 nil_bs)) (by simp)
  
  have d5 : (evR G (fnEval G 40) F51c5).b [.sh (.scr ns), .ow (drD l t3), .sh (nD n), .sh (nD (2 ^ n)), .sh (plD n), .no, .no, .no, .no, .no, .no, .no, .no, .no, .sh (fD n a), .sh (fD n b), .sh (fD n c), .sh (bD n a), .sh (bD n b), .sh (bD n c), .no, .no, .no, .no, .no, .no, .no, .no, .no, .no, .no] = .ok (.dat (bD n fun p => a p || b p)) [.sh (.scr ns), .ow (drD l t3), .sh (nD n), .sh (nD (2 ^ n)), .sh (plD n), .no, .no, .no, .no, .no, .no, .no, .no, .no, .sh (fD n a), .sh (fD n b), .sh (fD n c), .sh (bD n a), .sh (bD n b), .sh (bD n c), .no, .no, .no, .no, .no, .no, .no, .no, .no, .no, .no] := by
    rw [F51c5_b, g5 (hn := hn)]
    rfl
  have d6 : (evR G (fnEval G 40) F51c6).b [.sh (.scr ns), .ow (drD l t3), .sh (nD n), .sh (nD (2 ^ n)), .sh (plD n), .no, .no, .no, .no, .no, .no, .no, .no, .no, .sh (fD n a), .sh (fD n b), .sh (fD n c), .sh (bD n a), .sh (bD n b), .sh (bD n c), .no, .no, .no, .no, .no, .no, .no, .no, .no, .no, .no] = .ok (.dat (bD n fun p => a p != b p)) [.sh (.scr ns), .ow (drD l t3), .sh (nD n), .sh (nD (2 ^ n)), .sh (plD n), .no, .no, .no, .no, .no, .no, .no, .no, .no, .sh (fD n a), .sh (fD n b), .sh (fD n c), .sh (bD n a), .sh (bD n b), .sh (bD n c), .no, .no, .no, .no, .no, .no, .no, .no, .no, .no, .no] := by
    rw [F51c6_b, g6 (hn := hn)]
    rfl
  have d7 : (evR G (fnEval G 40) F51c7).b [.sh (.scr ns), .ow (drD l t3), .sh (nD n), .sh (nD (2 ^ n)), .sh (plD n), .no, .no, .no, .no, .no, .no, .no, .no, .no, .sh (fD n a), .sh (fD n b), .sh (fD n c), .sh (bD n a), .sh (bD n b), .sh (bD n c), .no, .no, .no, .no, .no, .no, .no, .no, .no, .no, .no] = .ok (.dat (bD n fun p => if a p = true then b p else c p)) [.sh (.scr ns), .ow (drD l t3), .sh (nD n), .sh (nD (2 ^ n)), .sh (plD n), .no, .no, .no, .no, .no, .no, .no, .no, .no, .sh (fD n a), .sh (fD n b), .sh (fD n c), .sh (bD n a), .sh (bD n b), .sh (bD n c), .no, .no, .no, .no, .no, .no, .no, .no, .no, .no, .no] := by
    rw [F51c7_b, g7 (hn := hn)]
    rfl
  have t5b := tup_b (ds := [fD n fun p => a p || b p, bD n fun p => a p || b p]) (cons_bs (callDb (xs := .cons (.var 14) (.cons (.var 15) .nil)) (e := [.sh (.scr ns), .ow (drD l t3), .sh (nD n), .sh (nD (2 ^ n)), .sh (plD n), .no, .no, .no, .no, .no, .no, .no, .no, .no, .sh (fD n a), .sh (fD n b), .sh (fD n c), .sh (bD n a), .sh (bD n b), .sh (bD n c), .no, .no, .no, .no, .no, .no, .no, .no, .no, .no, .no]) [fD n a, fD n b] n24 rfl rfl rfl (f24_ok 40 hn a b (by omega))) (cons_bs d5 nil_bs)) (by simp)
  have t6b := tup_b (ds := [fD n fun p => a p != b p, bD n fun p => a p != b p]) (cons_bs (callDb (xs := .cons (.var 14) (.cons (.var 15) .nil)) (e := [.sh (.scr ns), .ow (drD l t3), .sh (nD n), .sh (nD (2 ^ n)), .sh (plD n), .no, .no, .no, .no, .no, .no, .no, .no, .no, .sh (fD n a), .sh (fD n b), .sh (fD n c), .sh (bD n a), .sh (bD n b), .sh (bD n c), .no, .no, .no, .no, .no, .no, .no, .no, .no, .no, .no]) [fD n a, fD n b] n26 rfl rfl rfl (f26_ok 40 hn a b (by omega))) (cons_bs d6 nil_bs)) (by simp)
  have t7b := tup_b (ds := [fD n fun p => if a p = true then b p else c p, bD n fun p => if a p = true then b p else c p]) (cons_bs (callDb (xs := .cons (.var 14) (.cons (.var 15) (.cons (.var 16) .nil))) (e := [.sh (.scr ns), .ow (drD l t3), .sh (nD n), .sh (nD (2 ^ n)), .sh (plD n), .no, .no, .no, .no, .no, .no, .no, .no, .no, .sh (fD n a), .sh (fD n b), .sh (fD n c), .sh (bD n a), .sh (bD n b), .sh (bD n c), .no, .no, .no, .no, .no, .no, .no, .no, .no, .no, .no]) [fD n a, fD n b, fD n c] n30 rfl rfl rfl (f30_ok 40 hn a b c (by omega))) (cons_bs d7 nil_bs)) (by simp)
  refine go_asg Ret (x := (dueD n [fun p => !a p, fun p => a p && b p, fun p => a p || b p, fun p => a p != b p, fun p => if a p = true then b p else c p], true)) (e1 := [.sh (.scr ns), .ow (drD l t3), .sh (nD n), .sh (nD (2 ^ n)), .sh (plD n), .no, .no, .no, .no, .no, .no, .no, .no, .no, .sh (fD n a), .sh (fD n b), .sh (fD n c), .sh (bD n a), .sh (bD n b), .sh (bD n c), .no, .no, .no, .no, .no, .no, .no, .no, .no, .no, .no]) (lst_f (cons_bs t3b (cons_bs t4b (cons_bs t5b (cons_bs t6b (cons_bs t7b nil_bs))))) rfl (by simp [sizeLine_eq])) rfl ?_
  clear d3 d4 d5 d6 d7 t3b t4b t5b t6b t7b
  obtain ⟨x11, x20, c0⟩ := l0 (.sh (.scr ns)) (.ow (drD l t3)) (.sh (nD (2 ^ n))) (.sh (plD n)) (.no) (.no) (.no) (.no) (.no) (.no) (.no) (.no) (.sh (fD n a)) (.sh (fD n b)) (.sh (fD n c)) (.sh (bD n a)) (.sh (bD n b)) (.sh (bD n c)) (.no) (.no) (.no) (.no) (.no) (.no) (.no) (.no) (.no) (.no) (.no) 40 (by omega) hn [fun p => !a p, fun p => a p && b p, fun p => a p || b p, fun p => a p != b p, fun p => if a p = true then b p else c p]
  refine go_nx Ret c0 ?_
  generalize dueD n [fun p => !a p, fun p => a p && b p, fun p => a p || b p, fun p => a p != b p, fun p => if a p = true then b p else c p] = dd
  clear c0
  
  -- differ
  refine go_asg Ret (g8 (.sh (.scr ns)) (.ow (drD l t3)) (.sh (nD n)) (.sh (nD (2 ^ n))) (.sh dd) (.no) (.no) (.no) (.no) (.no) (x11) (.no) (.no) (.sh (fD n a)) (.sh (fD n b)) (.sh (fD n c)) (.sh (bD n c)) (x20) (.no) (.no) (.no) (.no) (.no) (.no) (.no) (.no) (.no) (.no) (fnEval G 40) hn a b) rfl ?_
  
  show Ret ((exR G (fnEval G 40) [] _).x [.sh (.scr ns), .ow (drD l t3), .sh (nD n), .sh (nD (2 ^ n)), .sh (plD n), .sh dd, .ow (rowsD (difL n a b)), .no, .no, .no, .no, x11, .no, .no, .sh (fD n a), .sh (fD n b), .sh (fD n c), .sh (bD n a), .sh (bD n b), .sh (bD n c), x20, .no, .no, .no, .no, .no, .no, .no, .no, .no, .no])
  have lqN : ∀ z, (fnEval G 40 44 [.sh (nD z), .sh (nD z)]).res = .ok (.bl true) false := fun z => leq 40 _ rfl (Nat.zero_le 1) (by omega)
  have lqF := fun m z => leqF 40 m z (by omega)
  have B29 : (evR G (fnEval G 40) (.ife (.cmp .Gt (.bi .len (.cons (.var 6) .nil)) (.lit (.int 0))) (.ix (.var 6) (.lit (.int 0))) (.lit .non))).b [.sh (.scr ns), .ow (drD l t3), .sh (nD n), .sh (nD (2 ^ n)), .sh (plD n), .sh dd, .ow (rowsD (difL n a b)), .no, .no, .no, .no, x11, .no, .no, .sh (fD n a), .sh (fD n b), .sh (fD n c), .sh (bD n a), .sh (bD n b), .sh (bD n c), x20, .no, .no, .no, .no, .no, .no, .no, .no, .no, .no] = .ok (.dat (if (difL n a b).length > 0 then nD ((difL n a b).getD 0 0) else .non)) [.sh (.scr ns), .ow (drD l t3), .sh (nD n), .sh (nD (2 ^ n)), .sh (plD n), .sh dd, .ow (rowsD (difL n a b)), .no, .no, .no, .no, x11, .no, .no, .sh (fD n a), .sh (fD n b), .sh (fD n c), .sh (bD n a), .sh (bD n b), .sh (bD n c), x20, .no, .no, .no, .no, .no, .no, .no, .no, .no, .no] := by
    generalize difL n a b = dl
    cases dl with
    | nil => simp [exR, evR, lineOk, sizeLine_eq, ofX, ofF, noR, R.out, R.bind, R.of, with1, with2, withs, Bor.res, Bor.frz, ress, frzs, bl2, dat, Sl.get?, Sl.frz, mkSl, Out.res, Res.put, mkArgs, ioAt, doCall, putIos, nd0, nd1, ndl, ndc, nAdd, nSub, nMul, nDiv, nMod, nShl, nShr, nAnd, nXor, nPow, sAdd, lAdd, rAdd, tAdd, lMul, sMul, cEqN, cEqS, cEqB, cNeN, cNeS, cNeB, cLt, cLe, cGt, cGe, cIs, cIsN, isNonN, isNonS, isNonL, isNonR, isNonT, isNonB, isNon0, inS, ninS, tN, tB, tL, tT, tR, t0, bLenL, bLenT, bLenR, bLenS, bIntN, bMin, bMax, bSum, bLstL, bLstT, bTupL, bTupT, ixL, ixT, ixR, ixS, isiN, isiR, flatN, flatR, mutN, mutR, itR, itL, itT, itS, cNilR, cNilN, cNilL, cNilM, meTyJ, inR, ninR, flat0, flatB, flatI, flatS, flatF, flatL, flatT, flatD, mut0, mutB, mutI, mutS, mutF, mutL, mutT, mutD, isi0, isiB, isiI, isiS, isiL, isiT, isiDc, muOk, muTyR, muTyL, muAR, muAL, rMul, setR, bAbs]
    | cons z dl =>
      have i := ixR (l := z :: dl) (j := 0) (by simp)
      simp at i
      simp [i, exR, evR, lineOk, sizeLine_eq, ofX, ofF, noR, R.out, R.bind, R.of, with1, with2, withs, Bor.res, Bor.frz, ress, frzs, bl2, dat, Sl.get?, Sl.frz, mkSl, Out.res, Res.put, mkArgs, ioAt, doCall, putIos, nd0, nd1, ndl, ndc, nAdd, nSub, nMul, nDiv, nMod, nShl, nShr, nAnd, nXor, nPow, sAdd, lAdd, rAdd, tAdd, lMul, sMul, cEqN, cEqS, cEqB, cNeN, cNeS, cNeB, cLt, cLe, cGt, cGe, cIs, cIsN, isNonN, isNonS, isNonL, isNonR, isNonT, isNonB, isNon0, inS, ninS, tN, tB, tL, tT, tR, t0, bLenL, bLenT, bLenR, bLenS, bIntN, bMin, bMax, bSum, bLstL, bLstT, bTupL, bTupT, ixL, ixT, ixR, ixS, isiN, isiR, flatN, flatR, mutN, mutR, itR, itL, itT, itS, cNilR, cNilN, cNilL, cNilM, meTyJ, inR, ninR, flat0, flatB, flatI, flatS, flatF, flatL, flatT, flatD, mut0, mutB, mutI, mutS, mutF, mutL, mutT, mutD, isi0, isiB, isiI, isiS, isiL, isiT, isiDc, muOk, muTyR, muTyL, muAR, muAL, rMul, setR, bAbs]
  have q29 : (fnEval G 40 44 [.sh (if (difL n a b).length > 0 then nD ((difL n a b).getD 0 0) else .non), .sh (if (difL n a b).length > 0 then nD ((difL n a b).getD 0 0) else .non)]).res = .ok (.bl true) false := by
    split
    · exact lqN _
    · exact leq 40 _ rfl (Nat.zero_le 1) (by omega)
  have B28 : (evR G (fnEval G 40) (.cmp .Eq (.bi .len (.cons F51c9 .nil)) (.lit (.int 0)))).b [.sh (.scr ns), .ow (drD l t3), .sh (nD n), .sh (nD (2 ^ n)), .sh (plD n), .sh dd, .ow (rowsD (difL n a b)), .no, .no, .no, .no, x11, .no, .no, .sh (fD n a), .sh (fD n b), .sh (fD n c), .sh (bD n a), .sh (bD n b), .sh (bD n c), x20, .no, .no, .no, .no, .no, .no, .no, .no, .no, .no] = .ok (.dat (.bl (wiB n a b))) [.sh (.scr ns), .ow (drD l t3), .sh (nD n), .sh (nD (2 ^ n)), .sh (plD n), .sh dd, .ow (rowsD (difL n a b)), .no, .no, .no, .no, x11, .no, .no, .sh (fD n a), .sh (fD n b), .sh (fD n c), .sh (bD n a), .sh (bD n b), .sh (bD n c), x20, .no, .no, .no, .no, .no, .no, .no, .no, .no, .no] := by
    have g := g9 (.sh (.scr ns)) (.ow (drD l t3)) (.sh (nD n)) (.sh (nD (2 ^ n))) (.sh dd) (.ow (rowsD (difL n a b))) (.no) (.no) (.no) (.no) (x11) (.no) (.no) (.sh (fD n a)) (.sh (fD n b)) (.sh (fD n c)) (.sh (bD n c)) (x20) (.no) (.no) (.no) (.no) (.no) (.no) (.no) (.no) (.no) (.no) (fnEval G 40) hn a b
    unfold wiB
    generalize ((List.range (2 ^ n)).filter fun p => a p && !b p) = w at g ⊢
    have e : w.isEmpty = decide (w.length = 0) := by cases w <;> rfl
    rw [e]
    generalize difL n a b = dl at g ⊢
    simp [g, exR, evR, lineOk, sizeLine_eq, ofX, ofF, noR, R.out, R.bind, R.of, with1, with2, withs, Bor.res, Bor.frz, ress, frzs, bl2, dat, Sl.get?, Sl.frz, mkSl, Out.res, Res.put, mkArgs, ioAt, doCall, putIos, nd0, nd1, ndl, ndc, nAdd, nSub, nMul, nDiv, nMod, nShl, nShr, nAnd, nXor, nPow, sAdd, lAdd, rAdd, tAdd, lMul, sMul, cEqN, cEqS, cEqB, cNeN, cNeS, cNeB, cLt, cLe, cGt, cGe, cIs, cIsN, isNonN, isNonS, isNonL, isNonR, isNonT, isNonB, isNon0, inS, ninS, tN, tB, tL, tT, tR, t0, bLenL, bLenT, bLenR, bLenS, bIntN, bMin, bMax, bSum, bLstL, bLstT, bTupL, bTupT, ixL, ixT, ixR, ixS, isiN, isiR, flatN, flatR, mutN, mutR, itR, itL, itT, itS, cNilR, cNilN, cNilL, cNilM, meTyJ, inR, ninR, flat0, flatB, flatI, flatS, flatF, flatL, flatT, flatD, mut0, mutB, mutI, mutS, mutF, mutL, mutT, mutD, isi0, isiB, isiI, isiS, isiL, isiT, isiDc, muOk, muTyR, muTyL, muAR, muAL, rMul, setR, bAbs]
  refine go_ff Ret (e1 := [.sh (.scr ns), .ow (drD l t3), .sh (nD n), .sh (nD (2 ^ n)), .sh (plD n), .sh dd, .ow (rowsD (difL n a b)), .no, .no, .no, .no, x11, .no, .no, .sh (fD n a), .sh (fD n b), .sh (fD n c), .sh (bD n a), .sh (bD n b), .sh (bD n c), x20, .no, .no, .no, .no, .no, .no, .no, .no, .no, .no]) (or_ff (leq_ff _ n44 (callDb (e := [.sh (.scr ns), .ow (drD l t3), .sh (nD n), .sh (nD (2 ^ n)), .sh (plD n), .sh dd, .ow (rowsD (difL n a b)), .no, .no, .no, .no, x11, .no, .no, .sh (fD n a), .sh (fD n b), .sh (fD n c), .sh (bD n a), .sh (bD n b), .sh (bD n c), x20, .no, .no, .no, .no, .no, .no, .no, .no, .no, .no]) [fD n a, fD n b] n29 rfl rfl rfl (f29_ok 40 hn a b (by omega))) B29 rfl rfl q29) (leq_ff _ n44 (callDb (e := [.sh (.scr ns), .ow (drD l t3), .sh (nD n), .sh (nD (2 ^ n)), .sh (plD n), .sh dd, .ow (rowsD (difL n a b)), .no, .no, .no, .no, x11, .no, .no, .sh (fD n a), .sh (fD n b), .sh (fD n c), .sh (bD n a), .sh (bD n b), .sh (bD n c), x20, .no, .no, .no, .no, .no, .no, .no, .no, .no, .no]) [fD n a, fD n b] n28 rfl rfl rfl (f28_ok 40 hn a b (by omega))) B28 rfl rfl (leq 40 _ rfl (Nat.zero_le 1) (by omega)))) ?_
  clear B29 q29 B28
  generalize difL n a b = dl
  
  -- p, k, v
  obtain ⟨p, hp, q4⟩ := dcall 40 1 l t3 (2 ^ n) hs hl (by omega) p1 (by omega) (.var 3) [.sh (.scr ns), .ow (drD l t3), .sh (nD n), .sh (nD (2 ^ n)), .sh (plD n), .sh dd, .ow (rowsD dl), .no, .no, .no, .no, x11, .no, .no, .sh (fD n a), .sh (fD n b), .sh (fD n c), .sh (bD n a), .sh (bD n b), .sh (bD n c), x20, .no, .no, .no, .no, .no, .no, .no, .no, .no, .no] rfl rfl
  obtain ⟨j, hj, q5⟩ := dcall 40 1 l (t3 + 1) n hs hl (by omega) (by omega) (by omega) (.var 2) [.sh (.scr ns), .ow (drD l (t3 + 1)), .sh (nD n), .sh (nD (2 ^ n)), .sh (plD n), .sh dd, .ow (rowsD dl), .no, .no, .no, .no, x11, .no, .no, .sh (fD n a), .sh (fD n b), .sh (fD n c), .sh (bD n a), .sh (bD n b), .sh (bD n c), x20, .no, .no, .no, .no, .no, .no, .no, .no, .no, .no] rfl rfl
  obtain ⟨w, hw, q6⟩ := dcall 40 1 l (t3 + 1 + 1) 2 hs hl (by omega) (by omega) (by omega) (.lit (.int 2)) [.sh (.scr ns), .ow (drD l (t3 + 1 + 1)), .sh (nD n), .sh (nD (2 ^ n)), .sh (plD n), .sh dd, .ow (rowsD dl), .no, .no, .no, .no, x11, .no, .no, .sh (fD n a), .sh (fD n b), .sh (fD n c), .sh (bD n a), .sh (bD n b), .sh (bD n c), x20, .no, .no, .no, .no, .no, .no, .no, .no, .no, .no] rfl rfl
  refine go_asgT Ret (x := (.tup [nD p, nD j, nD w], false)) (e1 := [.sh (.scr ns), .ow (drD l (t3 + 1 + 1 + 1)), .sh (nD n), .sh (nD (2 ^ n)), .sh (plD n), .sh dd, .ow (rowsD dl), .no, .no, .no, .no, x11, .no, .no, .sh (fD n a), .sh (fD n b), .sh (fD n c), .sh (bD n a), .sh (bD n b), .sh (bD n c), x20, .no, .no, .no, .no, .no, .no, .no, .no, .no, .no]) (e2 := [.sh (.scr ns), .ow (drD l (t3 + 1 + 1 + 1)), .sh (nD n), .sh (nD (2 ^ n)), .sh (plD n), .sh dd, .ow (rowsD dl), .no, .no, .no, .no, x11, .no, .no, .sh (fD n a), .sh (fD n b), .sh (fD n c), .sh (bD n a), .sh (bD n b), .sh (bD n c), x20, .sh (nD p), .sh (nD j), .sh (nD w), .no, .no, .no, .no, .no, .no, .no]) (tup_f (cons_bs (call_b q4) (cons_bs (call_b q5) (cons_bs (call_b q6) nil_bs))) rfl (by simp [sizeLine_eq])) rfl rfl ?_
  clear q4 q5 q6
  
  -- ones
  refine go_asg Ret (g10 (.sh (.scr ns)) (.ow (drD l (t3 + 1 + 1 + 1))) (.sh (nD n)) (.sh (nD (2 ^ n))) (.sh dd) (.ow (rowsD dl)) (.no) (.no) (.no) (.no) (x11) (.no) (.no) (.sh (fD n a)) (.sh (fD n b)) (.sh (fD n c)) (.sh (bD n b)) (.sh (bD n c)) (x20) (.sh (nD p)) (.sh (nD j)) (.sh (nD w)) (.no) (.no) (.no) (.no) (.no) (.no) (.no) (fnEval G 40) hn a) rfl ?_
  have on1 : ∀ x ∈ (List.range (2 ^ n)).filter a, x < 2 ^ n := fun x hx => by simpa using (List.mem_filter.mp hx).1
  have on2 : ((List.range (2 ^ n)).filter a).Pairwise (· < ·) := List.Pairwise.filter _ List.pairwise_lt_range
  have on3 : ((List.range (2 ^ n)).filter a).length ≤ 100000 := Nat.le_trans (List.length_filter_le _ _) (by simp; omega)
  have on4 := f16_ok 40 hn _ on1 on2 on3 (by omega)
  have on5 : fD n (fun p => decide (p ∈ (List.range (2 ^ n)).filter a)) = fD n a := fD_congr fun p hp => by
    rw [Bool.eq_iff_iff, decide_eq_true_iff, List.mem_filter]
    exact ⟨fun h => h.2, fun h => ⟨by simpa using hp, h⟩⟩
  rw [on5] at on4
  have A14 := f14_ok 40 hn a (by omega)
  have q14 := leq 40 (rowsD ((List.range (2 ^ n)).filter a)) (lim_rows (by omega)) (by rw [dep_rows]; exact Nat.le_refl _) (by omega)
  generalize (List.range (2 ^ n)).filter a = on at on4 A14 q14 ⊢
  clear on1 on2 on3 on5
  
  show Ret ((exR G (fnEval G 40) [] _).x [.sh (.scr ns), .ow (drD l (t3 + 1 + 1 + 1)), .sh (nD n), .sh (nD (2 ^ n)), .sh (plD n), .sh dd, .ow (rowsD dl), .ow (rowsD on), .no, .no, .no, x11, .no, .no, .sh (fD n a), .sh (fD n b), .sh (fD n c), .sh (bD n a), .sh (bD n b), .sh (bD n c), x20, .sh (nD p), .sh (nD j), .sh (nD w), .no, .no, .no, .no, .no, .no, .no])
  have B12 : (evR G (fnEval G 40) (.ife (.ix (.var 17) (.var 21)) (.lit (.int 1)) (.lit (.int 0)))).b [.sh (.scr ns), .ow (drD l (t3 + 1 + 1 + 1)), .sh (nD n), .sh (nD (2 ^ n)), .sh (plD n), .sh dd, .ow (rowsD dl), .ow (rowsD on), .no, .no, .no, x11, .no, .no, .sh (fD n a), .sh (fD n b), .sh (fD n c), .sh (bD n a), .sh (bD n b), .sh (bD n c), x20, .sh (nD p), .sh (nD j), .sh (nD w), .no, .no, .no, .no, .no, .no, .no] = .ok (.dat (nD (if a p = true then 1 else 0))) [.sh (.scr ns), .ow (drD l (t3 + 1 + 1 + 1)), .sh (nD n), .sh (nD (2 ^ n)), .sh (plD n), .sh dd, .ow (rowsD dl), .ow (rowsD on), .no, .no, .no, x11, .no, .no, .sh (fD n a), .sh (fD n b), .sh (fD n c), .sh (bD n a), .sh (bD n b), .sh (bD n c), x20, .sh (nD p), .sh (nD j), .sh (nD w), .no, .no, .no, .no, .no, .no, .no] := by
    have i := ixB a hp
    generalize bD n a = ba at i ⊢
    cases ha : a p <;> rw [ha] at i <;> simp [i, exR, evR, lineOk, sizeLine_eq, ofX, ofF, noR, R.out, R.bind, R.of, with1, with2, withs, Bor.res, Bor.frz, ress, frzs, bl2, dat, Sl.get?, Sl.frz, mkSl, Out.res, Res.put, mkArgs, ioAt, doCall, putIos, nd0, nd1, ndl, ndc, nAdd, nSub, nMul, nDiv, nMod, nShl, nShr, nAnd, nXor, nPow, sAdd, lAdd, rAdd, tAdd, lMul, sMul, cEqN, cEqS, cEqB, cNeN, cNeS, cNeB, cLt, cLe, cGt, cGe, cIs, cIsN, isNonN, isNonS, isNonL, isNonR, isNonT, isNonB, isNon0, inS, ninS, tN, tB, tL, tT, tR, t0, bLenL, bLenT, bLenR, bLenS, bIntN, bMin, bMax, bSum, bLstL, bLstT, bTupL, bTupT, ixL, ixT, ixR, ixS, isiN, isiR, flatN, flatR, mutN, mutR, itR, itL, itT, itS, cNilR, cNilN, cNilL, cNilM, meTyJ, inR, ninR, flat0, flatB, flatI, flatS, flatF, flatL, flatT, flatD, mut0, mutB, mutI, mutS, mutF, mutL, mutT, mutD, isi0, isiB, isiI, isiS, isiL, isiT, isiDc, muOk, muTyR, muTyL, muAR, muAL, rMul, setR, bAbs]
  have A16 : (evR G (fnEval G 40) (.call 16 (.cons (.var 2) (.cons (.var 7) .nil)))).b [.sh (.scr ns), .ow (drD l (t3 + 1 + 1 + 1)), .sh (nD n), .sh (nD (2 ^ n)), .sh (plD n), .sh dd, .ow (rowsD dl), .ow (rowsD on), .no, .no, .no, x11, .no, .no, .sh (fD n a), .sh (fD n b), .sh (fD n c), .sh (bD n a), .sh (bD n b), .sh (bD n c), x20, .sh (nD p), .sh (nD j), .sh (nD w), .no, .no, .no, .no, .no, .no, .no] = .ok (.dat (fD n a)) [.sh (.scr ns), .ow (drD l (t3 + 1 + 1 + 1)), .sh (nD n), .sh (nD (2 ^ n)), .sh (plD n), .sh dd, .ow (rowsD dl), .sh (rowsD on), .no, .no, .no, x11, .no, .no, .sh (fD n a), .sh (fD n b), .sh (fD n c), .sh (bD n a), .sh (bD n b), .sh (bD n c), x20, .sh (nD p), .sh (nD j), .sh (nD w), .no, .no, .no, .no, .no, .no, .no] := call_b (by
    rw [call_f (show (evR G (fnEval G 40) (.cons (.var 2) (.cons (.var 7) .nil))).bs [.sh (.scr ns), .ow (drD l (t3 + 1 + 1 + 1)), .sh (nD n), .sh (nD (2 ^ n)), .sh (plD n), .sh dd, .ow (rowsD dl), .ow (rowsD on), .no, .no, .no, x11, .no, .no, .sh (fD n a), .sh (fD n b), .sh (fD n c), .sh (bD n a), .sh (bD n b), .sh (bD n c), x20, .sh (nD p), .sh (nD j), .sh (nD w), .no, .no, .no, .no, .no, .no, .no] = .ok [.dat (nD n), .slot 7] [.sh (.scr ns), .ow (drD l (t3 + 1 + 1 + 1)), .sh (nD n), .sh (nD (2 ^ n)), .sh (plD n), .sh dd, .ow (rowsD dl), .ow (rowsD on), .no, .no, .no, x11, .no, .no, .sh (fD n a), .sh (fD n b), .sh (fD n c), .sh (bD n a), .sh (bD n b), .sh (bD n c), x20, .sh (nD p), .sh (nD j), .sh (nD w), .no, .no, .no, .no, .no, .no, .no] from rfl), go16]
    show ((fnEval G 40 16 [.sh (nD n), .sh (rowsD on)]).res).put _ _ = _
    rw [on4]
    rfl)
  refine go_ff Ret (e1 := [.sh (.scr ns), .ow (drD l (t3 + 1 + 1 + 1)), .sh (nD n), .sh (nD (2 ^ n)), .sh (plD n), .sh dd, .ow (rowsD dl), .sh (rowsD on), .no, .no, .no, x11, .no, .no, .sh (fD n a), .sh (fD n b), .sh (fD n c), .sh (bD n a), .sh (bD n b), .sh (bD n c), x20, .sh (nD p), .sh (nD j), .sh (nD w), .no, .no, .no, .no, .no, .no, .no]) (or_ff (leq_ff _ n44 (callDb (e := [.sh (.scr ns), .ow (drD l (t3 + 1 + 1 + 1)), .sh (nD n), .sh (nD (2 ^ n)), .sh (plD n), .sh dd, .ow (rowsD dl), .ow (rowsD on), .no, .no, .no, x11, .no, .no, .sh (fD n a), .sh (fD n b), .sh (fD n c), .sh (bD n a), .sh (bD n b), .sh (bD n c), x20, .sh (nD p), .sh (nD j), .sh (nD w), .no, .no, .no, .no, .no, .no, .no]) [fD n a, nD p] n12 rfl rfl rfl (f12_ok 40 hn a p hp (by omega))) B12 rfl rfl (lqN _)) (or_ff (leq_ff (rowsD on) n44 (callDb (e := [.sh (.scr ns), .ow (drD l (t3 + 1 + 1 + 1)), .sh (nD n), .sh (nD (2 ^ n)), .sh (plD n), .sh dd, .ow (rowsD dl), .ow (rowsD on), .no, .no, .no, x11, .no, .no, .sh (fD n a), .sh (fD n b), .sh (fD n c), .sh (bD n a), .sh (bD n b), .sh (bD n c), x20, .sh (nD p), .sh (nD j), .sh (nD w), .no, .no, .no, .no, .no, .no, .no]) [fD n a] n14 rfl rfl rfl A14) rfl rfl rfl q14) (leq_ff (fD n a) n44 A16 rfl rfl rfl (lqF n a)))) ?_
  clear B12 A16 A14 q14 on4
  
  -- put, constant
  have hb1 : (evR G (fnEval G 40) (.cons (.var 14) (.cons (.lst (.cons (.tup (.cons (.var 22) (.cons (.var 23) .nil))) .nil)) .nil))).bs [.sh (.scr ns), .ow (drD l (t3 + 1 + 1 + 1)), .sh (nD n), .sh (nD (2 ^ n)), .sh (plD n), .sh dd, .ow (rowsD dl), .sh (rowsD on), .no, .no, .no, x11, .no, .no, .sh (fD n a), .sh (fD n b), .sh (fD n c), .sh (bD n a), .sh (bD n b), .sh (bD n c), x20, .sh (nD p), .sh (nD j), .sh (nD w), .no, .no, .no, .no, .no, .no, .no] = .ok ([fD n a, pD [(j, w)]].map .dat) [.sh (.scr ns), .ow (drD l (t3 + 1 + 1 + 1)), .sh (nD n), .sh (nD (2 ^ n)), .sh (plD n), .sh dd, .ow (rowsD dl), .sh (rowsD on), .no, .no, .no, x11, .no, .no, .sh (fD n a), .sh (fD n b), .sh (fD n c), .sh (bD n a), .sh (bD n b), .sh (bD n c), x20, .sh (nD p), .sh (nD j), .sh (nD w), .no, .no, .no, .no, .no, .no, .no] := rfl
  have B50 := callDb (e := [.sh (.scr ns), .ow (drD l (t3 + 1 + 1 + 1)), .sh (nD n), .sh (nD (2 ^ n)), .sh (plD n), .sh dd, .ow (rowsD dl), .sh (rowsD on), .no, .no, .no, x11, .no, .no, .sh (fD n a), .sh (fD n b), .sh (fD n c), .sh (bD n a), .sh (bD n b), .sh (bD n c), x20, .sh (nD p), .sh (nD j), .sh (nD w), .no, .no, .no, .no, .no, .no, .no]) [fD n a, pD [(j, w)]] n50 rfl rfl hb1 (f50_ok 40 hn a [(j, w)] (fun z hz => by
    have : z = (j, w) := by simpa using hz
    subst this
    exact ⟨hj, by omega⟩) (by simp) (by omega))
  obtain ⟨bx, hbx⟩ : ∃ bx : Bool, w = if bx = true then 1 else 0 := by
    have : w = 0 ∨ w = 1 := by omega
    rcases this with rfl | rfl
    · exact ⟨false, rfl⟩
    · exact ⟨true, rfl⟩
  have A17 := f17_ok 40 hn bx (by omega)
  rw [← hbx] at A17
  have B17 : (evR G (fnEval G 40) (.bin .Mult (.bi .strF (.cons (.var 23) .nil)) (.var 3))).b [.sh (.scr ns), .ow (drD l (t3 + 1 + 1 + 1)), .sh (nD n), .sh (nD (2 ^ n)), .sh (plD n), .sh dd, .ow (rowsD dl), .sh (rowsD on), .no, .no, .no, x11, .no, .no, .sh (fD n a), .sh (fD n b), .sh (fD n c), .sh (bD n a), .sh (bD n b), .sh (bD n c), x20, .sh (nD p), .sh (nD j), .sh (nD w), .no, .no, .no, .no, .no, .no, .no] = .ok (.dat (.str (tx n fun _ => bx))) [.sh (.scr ns), .ow (drD l (t3 + 1 + 1 + 1)), .sh (nD n), .sh (nD (2 ^ n)), .sh (plD n), .sh dd, .ow (rowsD dl), .sh (rowsD on), .no, .no, .no, x11, .no, .no, .sh (fD n a), .sh (fD n b), .sh (fD n c), .sh (bD n a), .sh (bD n b), .sh (bD n c), x20, .sh (nD p), .sh (nD j), .sh (nD w), .no, .no, .no, .no, .no, .no, .no] := by
    have st := str01 bx
    rw [← hbx] at st
    have m := sMul (a := [ch bx]) (n := 2 ^ n) (by simp; omega) (by omega)
    rw [tx_const] at m
    generalize tx n (fun _ => bx) = tt at m ⊢
    generalize ch bx = cc at st m
    generalize 2 ^ n = ww at m ⊢
    simp [st, m, exR, evR, lineOk, sizeLine_eq, ofX, ofF, noR, R.out, R.bind, R.of, with1, with2, withs, Bor.res, Bor.frz, ress, frzs, bl2, dat, Sl.get?, Sl.frz, mkSl, Out.res, Res.put, mkArgs, ioAt, doCall, putIos, nd0, nd1, ndl, ndc, nAdd, nSub, nMul, nMod, nShl, nShr, nAnd, nXor, nPow, sAdd, lAdd, rAdd, tAdd, cEqN, cEqS, cEqB, cNeN, cNeS, cNeB, cLt, cLe, cGt, cGe, cIs, cIsN, isNonN, isNonS, isNonL, isNonR, isNonT, isNonB, isNon0, inS, ninS, tN, tB, tL, tT, tR, t0, bLenL, bLenT, bLenR, bLenS, bIntN, bMin, bMax, bSum, bLstL, bLstT, bTupL, bTupT, ixL, ixT, ixR, ixS, isiN, isiR, flatN, flatR, mutN, mutR, itR, itL, itT, itS, cNilR, cNilN, cNilL, cNilM, meTyJ, inR, ninR, flat0, flatB, flatI, flatS, flatF, flatL, flatT, flatD, mut0, mutB, mutI, mutS, mutF, mutL, mutT, mutD, isi0, isiB, isiI, isiS, isiL, isiT, isiDc, muOk, muTyR, muTyL, muAR, muAL, setR, bAbs]
  refine go_ff Ret (e1 := [.sh (.scr ns), .ow (drD l (t3 + 1 + 1 + 1)), .sh (nD n), .sh (nD (2 ^ n)), .sh (plD n), .sh dd, .ow (rowsD dl), .sh (rowsD on), .no, .no, .no, x11, .no, .no, .sh (fD n a), .sh (fD n b), .sh (fD n c), .sh (bD n a), .sh (bD n b), .sh (bD n c), x20, .sh (nD p), .sh (nD j), .sh (nD w), .no, .no, .no, .no, .no, .no, .no]) (or_ff (leq_ff _ n44 (callDb (e := [.sh (.scr ns), .ow (drD l (t3 + 1 + 1 + 1)), .sh (nD n), .sh (nD (2 ^ n)), .sh (plD n), .sh dd, .ow (rowsD dl), .sh (rowsD on), .no, .no, .no, x11, .no, .no, .sh (fD n a), .sh (fD n b), .sh (fD n c), .sh (bD n a), .sh (bD n b), .sh (bD n c), x20, .sh (nD p), .sh (nD j), .sh (nD w), .no, .no, .no, .no, .no, .no, .no]) [fD n a, nD j, nD w] n33 rfl rfl rfl (f33_ok 40 hn a j w hj (by omega) (by omega))) B50 rfl rfl (lqF n _)) (leq_ff _ n44 (callDb (e := [.sh (.scr ns), .ow (drD l (t3 + 1 + 1 + 1)), .sh (nD n), .sh (nD (2 ^ n)), .sh (plD n), .sh dd, .ow (rowsD dl), .sh (rowsD on), .no, .no, .no, x11, .no, .no, .sh (fD n a), .sh (fD n b), .sh (fD n c), .sh (bD n a), .sh (bD n b), .sh (bD n c), x20, .sh (nD p), .sh (nD j), .sh (nD w), .no, .no, .no, .no, .no, .no, .no]) [nD n, nD w] n17 rfl rfl rfl A17) (tup_b (ds := [nD n, .str (tx n fun _ => bx)]) (cons_bs rfl (cons_bs B17 nil_bs)) (by simp)) rfl rfl (lqF n _))) ?_
  clear hb1 B50 A17 B17
  -- variable
  have B11 : (evR G (fnEval G 40) F51c11).b [.sh (.scr ns), .ow (drD l (t3 + 1 + 1 + 1)), .sh (nD n), .sh (nD (2 ^ n)), .sh (plD n), .sh dd, .ow (rowsD dl), .sh (rowsD on), .no, .no, .no, x11, .no, .no, .sh (fD n a), .sh (fD n b), .sh (fD n c), .sh (bD n a), .sh (bD n b), .sh (bD n c), x20, .sh (nD p), .sh (nD j), .sh (nD w), .no, .no, .no, .no, .no, .no, .no] = .ok (.dat (bD n fun q => decide (q / 2 ^ j % 2 = 1))) [.sh (.scr ns), .ow (drD l (t3 + 1 + 1 + 1)), .sh (nD n), .sh (nD (2 ^ n)), .sh (plD n), .sh dd, .ow (rowsD dl), .sh (rowsD on), .no, .no, .no, x11, .no, .no, .sh (fD n a), .sh (fD n b), .sh (fD n c), .sh (bD n a), .sh (bD n b), .sh (bD n c), x20, .sh (nD p), .sh (nD j), .sh (nD w), .no, .no, .no, .no, .no, .no, .no] := by
    rw [F51c11_b, g11 (hn := hn) (hk := (by omega : 2 ≤ 40))]
    rfl
  refine go_ff Ret (e1 := [.sh (.scr ns), .ow (drD l (t3 + 1 + 1 + 1)), .sh (nD n), .sh (nD (2 ^ n)), .sh (plD n), .sh dd, .ow (rowsD dl), .sh (rowsD on), .no, .no, .no, x11, .no, .no, .sh (fD n a), .sh (fD n b), .sh (fD n c), .sh (bD n a), .sh (bD n b), .sh (bD n c), x20, .sh (nD p), .sh (nD j), .sh (nD w), .no, .no, .no, .no, .no, .no, .no]) (leq_ff _ n44 (callDb (e := [.sh (.scr ns), .ow (drD l (t3 + 1 + 1 + 1)), .sh (nD n), .sh (nD (2 ^ n)), .sh (plD n), .sh dd, .ow (rowsD dl), .sh (rowsD on), .no, .no, .no, x11, .no, .no, .sh (fD n a), .sh (fD n b), .sh (fD n c), .sh (bD n a), .sh (bD n b), .sh (bD n c), x20, .sh (nD p), .sh (nD j), .sh (nD w), .no, .no, .no, .no, .no, .no, .no]) [nD n, nD j] n18 rfl rfl rfl (f18_ok 40 hn j hj (by omega))) (callDb (e := [.sh (.scr ns), .ow (drD l (t3 + 1 + 1 + 1)), .sh (nD n), .sh (nD (2 ^ n)), .sh (plD n), .sh dd, .ow (rowsD dl), .sh (rowsD on), .no, .no, .no, x11, .no, .no, .sh (fD n a), .sh (fD n b), .sh (fD n c), .sh (bD n a), .sh (bD n b), .sh (bD n c), x20, .sh (nD p), .sh (nD j), .sh (nD w), .no, .no, .no, .no, .no, .no, .no]) [nD n, bD n fun q => decide (q / 2 ^ j % 2 = 1)] n47 rfl rfl (cons_bs rfl (cons_bs B11 nil_bs)) (made 40 n (fun q => .bl (decide (q / 2 ^ j % 2 = 1))) (fun q => decide (q / 2 ^ j % 2 = 1)) hn (fun _ _ => rfl) (by omega))) rfl rfl (lqF n _)) ?_
  clear B11
  -- zero, full
  have zf : ∀ (vv : Nat), vv ≤ 1 → ∀ lit : SE, lit = .lit (.int vv) → (evR G (fnEval G 40) (.ix (.call 50 (.cons (.var 14) (.cons (.lst (.cons (.tup (.cons (.var 22) (.cons lit .nil))) .nil)) .nil))) (.lit (.int 1)))).b [.sh (.scr ns), .ow (drD l (t3 + 1 + 1 + 1)), .sh (nD n), .sh (nD (2 ^ n)), .sh (plD n), .sh dd, .ow (rowsD dl), .sh (rowsD on), .no, .no, .no, x11, .no, .no, .sh (fD n a), .sh (fD n b), .sh (fD n c), .sh (bD n a), .sh (bD n b), .sh (bD n c), x20, .sh (nD p), .sh (nD j), .sh (nD w), .no, .no, .no, .no, .no, .no, .no] = .ok (.dat (.str (tx n fun p => a (setb p j vv)))) [.sh (.scr ns), .ow (drD l (t3 + 1 + 1 + 1)), .sh (nD n), .sh (nD (2 ^ n)), .sh (plD n), .sh dd, .ow (rowsD dl), .sh (rowsD on), .no, .no, .no, x11, .no, .no, .sh (fD n a), .sh (fD n b), .sh (fD n c), .sh (bD n a), .sh (bD n b), .sh (bD n c), x20, .sh (nD p), .sh (nD j), .sh (nD w), .no, .no, .no, .no, .no, .no, .no] := fun vv hvv lit hlit => by
    subst hlit
    have hb1 : (evR G (fnEval G 40) (.cons (.var 14) (.cons (.lst (.cons (.tup (.cons (.var 22) (.cons (.lit (.int vv)) .nil))) .nil)) .nil))).bs [.sh (.scr ns), .ow (drD l (t3 + 1 + 1 + 1)), .sh (nD n), .sh (nD (2 ^ n)), .sh (plD n), .sh dd, .ow (rowsD dl), .sh (rowsD on), .no, .no, .no, x11, .no, .no, .sh (fD n a), .sh (fD n b), .sh (fD n c), .sh (bD n a), .sh (bD n b), .sh (bD n c), x20, .sh (nD p), .sh (nD j), .sh (nD w), .no, .no, .no, .no, .no, .no, .no] = .ok ([fD n a, pD [(j, vv)]].map .dat) [.sh (.scr ns), .ow (drD l (t3 + 1 + 1 + 1)), .sh (nD n), .sh (nD (2 ^ n)), .sh (plD n), .sh dd, .ow (rowsD dl), .sh (rowsD on), .no, .no, .no, x11, .no, .no, .sh (fD n a), .sh (fD n b), .sh (fD n c), .sh (bD n a), .sh (bD n b), .sh (bD n c), x20, .sh (nD p), .sh (nD j), .sh (nD w), .no, .no, .no, .no, .no, .no, .no] := rfl
    have cb := callDb (e := [.sh (.scr ns), .ow (drD l (t3 + 1 + 1 + 1)), .sh (nD n), .sh (nD (2 ^ n)), .sh (plD n), .sh dd, .ow (rowsD dl), .sh (rowsD on), .no, .no, .no, x11, .no, .no, .sh (fD n a), .sh (fD n b), .sh (fD n c), .sh (bD n a), .sh (bD n b), .sh (bD n c), x20, .sh (nD p), .sh (nD j), .sh (nD w), .no, .no, .no, .no, .no, .no, .no]) [fD n a, pD [(j, vv)]] n50 rfl rfl hb1 (f50_ok 40 hn a [(j, vv)] (fun z hz => by
      have : z = (j, vv) := by simpa using hz
      subst this
      exact ⟨hj, hvv⟩) (by simp) (by omega))
    show (with2 (evR G (fnEval G 40) (.call 50 (.cons (.var 14) (.cons (.lst (.cons (.tup (.cons (.var 22) (.cons (.lit (.int vv)) .nil))) .nil)) .nil)))) (evR G (fnEval G 40) (.lit (.int 1))) _ _).bind _ = _
    unfold with2
    rw [cb]
    rfl
  refine go_asgT Ret (x := (.tup [.str (tx n fun p => a (setb p j 0)), .str (tx n fun p => a (setb p j 1))], false)) (e1 := [.sh (.scr ns), .ow (drD l (t3 + 1 + 1 + 1)), .sh (nD n), .sh (nD (2 ^ n)), .sh (plD n), .sh dd, .ow (rowsD dl), .sh (rowsD on), .no, .no, .no, x11, .no, .no, .sh (fD n a), .sh (fD n b), .sh (fD n c), .sh (bD n a), .sh (bD n b), .sh (bD n c), x20, .sh (nD p), .sh (nD j), .sh (nD w), .no, .no, .no, .no, .no, .no, .no]) (e2 := [.sh (.scr ns), .ow (drD l (t3 + 1 + 1 + 1)), .sh (nD n), .sh (nD (2 ^ n)), .sh (plD n), .sh dd, .ow (rowsD dl), .sh (rowsD on), .no, .no, .no, x11, .no, .no, .sh (fD n a), .sh (fD n b), .sh (fD n c), .sh (bD n a), .sh (bD n b), .sh (bD n c), x20, .sh (nD p), .sh (nD j), .sh (nD w), .sh (.str (tx n fun p => a (setb p j 0))), .sh (.str (tx n fun p => a (setb p j 1))), .no, .no, .no, .no, .no]) (tup_f (cons_bs (zf 0 (by omega) _ rfl) (cons_bs (zf 1 (by omega) _ rfl) nil_bs)) rfl (by simp [sizeLine_eq])) rfl rfl ?_
  clear zf
  
  -- without
  have B12 : (evR G (fnEval G 40) (.me .join (.lit (.str [])) (.cons F51c12 .nil))).b [.sh (.scr ns), .ow (drD l (t3 + 1 + 1 + 1)), .sh (nD n), .sh (nD (2 ^ n)), .sh (plD n), .sh dd, .ow (rowsD dl), .sh (rowsD on), .no, .no, .no, x11, .no, .no, .sh (fD n a), .sh (fD n b), .sh (fD n c), .sh (bD n a), .sh (bD n b), .sh (bD n c), x20, .sh (nD p), .sh (nD j), .sh (nD w), .sh (.str (tx n fun p => a (setb p j 0))), .sh (.str (tx n fun p => a (setb p j 1))), .no, .no, .no, .no, .no] = .ok (.dat (.str (loT n a j w))) [.sh (.scr ns), .ow (drD l (t3 + 1 + 1 + 1)), .sh (nD n), .sh (nD (2 ^ n)), .sh (plD n), .sh dd, .ow (rowsD dl), .sh (rowsD on), .no, .no, .no, x11, .no, .no, .sh (fD n a), .sh (fD n b), .sh (fD n c), .sh (bD n a), .sh (bD n b), .sh (bD n c), x20, .sh (nD p), .sh (nD j), .sh (nD w), .sh (.str (tx n fun p => a (setb p j 0))), .sh (.str (tx n fun p => a (setb p j 1))), .no, .no, .no, .no, .no] := by
    have g := g12 (.sh (.scr ns)) (.ow (drD l (t3 + 1 + 1 + 1))) (.sh (nD n)) (.sh (nD (2 ^ n))) (.sh dd) (.ow (rowsD dl)) (.sh (rowsD on)) (.no) (.no) (.no) (x11) (.no) (.no) (.sh (fD n b)) (.sh (fD n c)) (.sh (bD n a)) (.sh (bD n b)) (.sh (bD n c)) (x20) (.sh (nD p)) (.sh (.str (tx n fun p => a (setb p j 0)))) (.sh (.str (tx n fun p => a (setb p j 1)))) (.no) (.no) (.no) (.no) (.no) 40 (by omega) hn a j w
    have jm := join_map ((List.range (2 ^ n)).filter fun p => decide (p / 2 ^ j % 2 = w)) (fun p => ch (a p)) (Nat.le_trans (List.length_filter_le _ _) (by simp; omega))
    unfold loT
    generalize ((List.range (2 ^ n)).filter fun p => decide (p / 2 ^ j % 2 = w)) = ll at g jm ⊢
    generalize (tx n fun p => a (setb p j 0)) = z0 at g ⊢
    generalize (tx n fun p => a (setb p j 1)) = z1 at g ⊢
    simp [g, jm, exR, evR, lineOk, sizeLine_eq, ofX, ofF, noR, R.out, R.bind, R.of, with1, with2, withs, Bor.res, Bor.frz, ress, frzs, bl2, dat, Sl.get?, Sl.frz, mkSl, Out.res, Res.put, mkArgs, ioAt, doCall, putIos, nd0, nd1, ndl, ndc, nAdd, nSub, nMul, nDiv, nMod, nShl, nShr, nAnd, nXor, nPow, sAdd, lAdd, rAdd, tAdd, lMul, sMul, cEqN, cEqS, cEqB, cNeN, cNeS, cNeB, cLt, cLe, cGt, cGe, cIs, cIsN, isNonN, isNonS, isNonL, isNonR, isNonT, isNonB, isNon0, inS, ninS, tN, tB, tL, tT, tR, t0, bLenL, bLenT, bLenR, bLenS, bIntN, bMin, bMax, bSum, bLstL, bLstT, bTupL, bTupT, ixL, ixT, ixR, ixS, isiN, isiR, flatN, flatR, mutN, mutR, itR, itL, itT, itS, cNilR, cNilN, cNilL, cNilM, meTyJ, inR, ninR, flat0, flatB, flatI, flatS, flatF, flatL, flatT, flatD, mut0, mutB, mutI, mutS, mutF, mutL, mutT, mutD, isi0, isiB, isiI, isiS, isiL, isiT, isiDc, muOk, muTyR, muTyL, muAR, muAL, rMul, setR, bAbs]
  have Bn1 : (evR G (fnEval G 40) (.bin .Sub (.var 2) (.lit (.int 1)))).b [.sh (.scr ns), .ow (drD l (t3 + 1 + 1 + 1)), .sh (nD n), .sh (nD (2 ^ n)), .sh (plD n), .sh dd, .ow (rowsD dl), .sh (rowsD on), .no, .no, .no, x11, .no, .no, .sh (fD n a), .sh (fD n b), .sh (fD n c), .sh (bD n a), .sh (bD n b), .sh (bD n c), x20, .sh (nD p), .sh (nD j), .sh (nD w), .sh (.str (tx n fun p => a (setb p j 0))), .sh (.str (tx n fun p => a (setb p j 1))), .no, .no, .no, .no, .no] = .ok (.dat (nD (n - 1))) [.sh (.scr ns), .ow (drD l (t3 + 1 + 1 + 1)), .sh (nD n), .sh (nD (2 ^ n)), .sh (plD n), .sh dd, .ow (rowsD dl), .sh (rowsD on), .no, .no, .no, x11, .no, .no, .sh (fD n a), .sh (fD n b), .sh (fD n c), .sh (bD n a), .sh (bD n b), .sh (bD n c), x20, .sh (nD p), .sh (nD j), .sh (nD w), .sh (.str (tx n fun p => a (setb p j 0))), .sh (.str (tx n fun p => a (setb p j 1))), .no, .no, .no, .no, .no] := by
    have sb := nSub hn1
    generalize (D.str (tx n fun p => a (setb p j 0))) = z0
    generalize (D.str (tx n fun p => a (setb p j 1))) = z1
    simp [sb, exR, evR, lineOk, sizeLine_eq, ofX, ofF, noR, R.out, R.bind, R.of, with1, with2, withs, Bor.res, Bor.frz, ress, frzs, bl2, dat, Sl.get?, Sl.frz, mkSl, Out.res, Res.put, mkArgs, ioAt, doCall, putIos, nd0, nd1, ndl, ndc, nAdd, nSub, nMul, nMod, nShl, nShr, nAnd, nXor, nPow, sAdd, lAdd, rAdd, tAdd, cEqN, cEqS, cEqB, cNeN, cNeS, cNeB, cLt, cLe, cGt, cGe, cIs, cIsN, isNonN, isNonS, isNonL, isNonR, isNonT, isNonB, isNon0, inS, ninS, tN, tB, tL, tT, tR, t0, bLenL, bLenT, bLenR, bLenS, bIntN, bMin, bMax, bSum, bLstL, bLstT, bTupL, bTupT, ixL, ixT, ixR, ixS, isiN, isiR, flatN, flatR, mutN, mutR, itR, itL, itT, itS, cNilR, cNilN, cNilL, cNilM, meTyJ, inR, ninR, flat0, flatB, flatI, flatS, flatF, flatL, flatT, flatD, mut0, mutB, mutI, mutS, mutF, mutL, mutT, mutD, isi0, isiB, isiI, isiS, isiL, isiT, isiDc, muOk, muTyR, muTyL, muAR, muAL, setR, bAbs]
  refine go_ff Ret (e1 := [.sh (.scr ns), .ow (drD l (t3 + 1 + 1 + 1)), .sh (nD n), .sh (nD (2 ^ n)), .sh (plD n), .sh dd, .ow (rowsD dl), .sh (rowsD on), .no, .no, .no, x11, .no, .no, .sh (fD n a), .sh (fD n b), .sh (fD n c), .sh (bD n a), .sh (bD n b), .sh (bD n c), x20, .sh (nD p), .sh (nD j), .sh (nD w), .sh (.str (tx n fun p => a (setb p j 0))), .sh (.str (tx n fun p => a (setb p j 1))), .no, .no, .no, .no, .no]) (leq_ff _ n44 (callDb (e := [.sh (.scr ns), .ow (drD l (t3 + 1 + 1 + 1)), .sh (nD n), .sh (nD (2 ^ n)), .sh (plD n), .sh dd, .ow (rowsD dl), .sh (rowsD on), .no, .no, .no, x11, .no, .no, .sh (fD n a), .sh (fD n b), .sh (fD n c), .sh (bD n a), .sh (bD n b), .sh (bD n c), x20, .sh (nD p), .sh (nD j), .sh (nD w), .sh (.str (tx n fun p => a (setb p j 0))), .sh (.str (tx n fun p => a (setb p j 1))), .no, .no, .no, .no, .no]) [fD n a, nD j, nD w] n35 rfl rfl rfl (f35_ok 40 hn a j w hj (by omega) (by omega))) (tup_b (ds := [nD (n - 1), .str (loT n a j w)]) (cons_bs Bn1 (cons_bs B12 nil_bs)) (by simp)) rfl rfl (leq 40 _ rfl (Nat.le_refl 1) (by omega))) ?_
  clear B12 Bn1
  -- due, once more
  have d3 : (evR G (fnEval G 40) F51c13).b [.sh (.scr ns), .ow (drD l (t3 + 1 + 1 + 1)), .sh (nD n), .sh (nD (2 ^ n)), .sh (plD n), .sh dd, .ow (rowsD dl), .sh (rowsD on), .no, .no, .no, x11, .no, .no, .sh (fD n a), .sh (fD n b), .sh (fD n c), .sh (bD n a), .sh (bD n b), .sh (bD n c), x20, .sh (nD p), .sh (nD j), .sh (nD w), .sh (.str (tx n fun p => a (setb p j 0))), .sh (.str (tx n fun p => a (setb p j 1))), .no, .no, .no, .no, .no] = .ok (.dat (bD n fun p => a (setb p j 0) || a (setb p j 1))) [.sh (.scr ns), .ow (drD l (t3 + 1 + 1 + 1)), .sh (nD n), .sh (nD (2 ^ n)), .sh (plD n), .sh dd, .ow (rowsD dl), .sh (rowsD on), .no, .no, .no, x11, .no, .no, .sh (fD n a), .sh (fD n b), .sh (fD n c), .sh (bD n a), .sh (bD n b), .sh (bD n c), x20, .sh (nD p), .sh (nD j), .sh (nD w), .sh (.str (tx n fun p => a (setb p j 0))), .sh (.str (tx n fun p => a (setb p j 1))), .no, .no, .no, .no, .no] := by
    rw [F51c13_b, g13 (hn := hn)]
    rfl
  have d4 : (evR G (fnEval G 40) F51c14).b [.sh (.scr ns), .ow (drD l (t3 + 1 + 1 + 1)), .sh (nD n), .sh (nD (2 ^ n)), .sh (plD n), .sh dd, .ow (rowsD dl), .sh (rowsD on), .no, .no, .no, x11, .no, .no, .sh (fD n a), .sh (fD n b), .sh (fD n c), .sh (bD n a), .sh (bD n b), .sh (bD n c), x20, .sh (nD p), .sh (nD j), .sh (nD w), .sh (.str (tx n fun p => a (setb p j 0))), .sh (.str (tx n fun p => a (setb p j 1))), .no, .no, .no, .no, .no] = .ok (.dat (bD n fun p => a (setb p j 0) && a (setb p j 1))) [.sh (.scr ns), .ow (drD l (t3 + 1 + 1 + 1)), .sh (nD n), .sh (nD (2 ^ n)), .sh (plD n), .sh dd, .ow (rowsD dl), .sh (rowsD on), .no, .no, .no, x11, .no, .no, .sh (fD n a), .sh (fD n b), .sh (fD n c), .sh (bD n a), .sh (bD n b), .sh (bD n c), x20, .sh (nD p), .sh (nD j), .sh (nD w), .sh (.str (tx n fun p => a (setb p j 0))), .sh (.str (tx n fun p => a (setb p j 1))), .no, .no, .no, .no, .no] := by
    rw [F51c14_b, g14 (hn := hn)]
    rfl
  have d5 : (evR G (fnEval G 40) F51c15).b [.sh (.scr ns), .ow (drD l (t3 + 1 + 1 + 1)), .sh (nD n), .sh (nD (2 ^ n)), .sh (plD n), .sh dd, .ow (rowsD dl), .sh (rowsD on), .no, .no, .no, x11, .no, .no, .sh (fD n a), .sh (fD n b), .sh (fD n c), .sh (bD n a), .sh (bD n b), .sh (bD n c), x20, .sh (nD p), .sh (nD j), .sh (nD w), .sh (.str (tx n fun p => a (setb p j 0))), .sh (.str (tx n fun p => a (setb p j 1))), .no, .no, .no, .no, .no] = .ok (.dat (bD n fun p => a (setb p j 0) != a (setb p j 1))) [.sh (.scr ns), .ow (drD l (t3 + 1 + 1 + 1)), .sh (nD n), .sh (nD (2 ^ n)), .sh (plD n), .sh dd, .ow (rowsD dl), .sh (rowsD on), .no, .no, .no, x11, .no, .no, .sh (fD n a), .sh (fD n b), .sh (fD n c), .sh (bD n a), .sh (bD n b), .sh (bD n c), x20, .sh (nD p), .sh (nD j), .sh (nD w), .sh (.str (tx n fun p => a (setb p j 0))), .sh (.str (tx n fun p => a (setb p j 1))), .no, .no, .no, .no, .no] := by
    rw [F51c15_b, g15 (hn := hn)]
    rfl
  have t3b := tup_b (ds := [fD n fun p => a (setb p j 0) || a (setb p j 1), bD n fun p => a (setb p j 0) || a (setb p j 1)]) (cons_bs (callDb (xs := .cons (.var 14) (.cons (.var 22) .nil)) (e := [.sh (.scr ns), .ow (drD l (t3 + 1 + 1 + 1)), .sh (nD n), .sh (nD (2 ^ n)), .sh (plD n), .sh dd, .ow (rowsD dl), .sh (rowsD on), .no, .no, .no, x11, .no, .no, .sh (fD n a), .sh (fD n b), .sh (fD n c), .sh (bD n a), .sh (bD n b), .sh (bD n c), x20, .sh (nD p), .sh (nD j), .sh (nD w), .sh (.str (tx n fun p => a (setb p j 0))), .sh (.str (tx n fun p => a (setb p j 1))), .no, .no, .no, .no, .no]) [fD n a, nD j] n36 rfl rfl rfl (f36_ok 40 hn a j hj (by omega))) (cons_bs d3 nil_bs)) (by simp)
  have t4b := tup_b (ds := [fD n fun p => a (setb p j 0) && a (setb p j 1), bD n fun p => a (setb p j 0) && a (setb p j 1)]) (cons_bs (callDb (xs := .cons (.var 14) (.cons (.var 22) .nil)) (e := [.sh (.scr ns), .ow (drD l (t3 + 1 + 1 + 1)), .sh (nD n), .sh (nD (2 ^ n)), .sh (plD n), .sh dd, .ow (rowsD dl), .sh (rowsD on), .no, .no, .no, x11, .no, .no, .sh (fD n a), .sh (fD n b), .sh (fD n c), .sh (bD n a), .sh (bD n b), .sh (bD n c), x20, .sh (nD p), .sh (nD j), .sh (nD w), .sh (.str (tx n fun p => a (setb p j 0))), .sh (.str (tx n fun p => a (setb p j 1))), .no, .no, .no, .no, .no]) [fD n a, nD j] n37 rfl rfl rfl (f37_ok 40 hn a j hj (by omega))) (cons_bs d4 nil_bs)) (by simp)
  have t5b := tup_b (ds := [fD n fun p => a (setb p j 0) != a (setb p j 1), bD n fun p => a (setb p j 0) != a (setb p j 1)]) (cons_bs (callDb (xs := .cons (.var 14) (.cons (.var 22) .nil)) (e := [.sh (.scr ns), .ow (drD l (t3 + 1 + 1 + 1)), .sh (nD n), .sh (nD (2 ^ n)), .sh (plD n), .sh dd, .ow (rowsD dl), .sh (rowsD on), .no, .no, .no, x11, .no, .no, .sh (fD n a), .sh (fD n b), .sh (fD n c), .sh (bD n a), .sh (bD n b), .sh (bD n c), x20, .sh (nD p), .sh (nD j), .sh (nD w), .sh (.str (tx n fun p => a (setb p j 0))), .sh (.str (tx n fun p => a (setb p j 1))), .no, .no, .no, .no, .no]) [fD n a, nD j] n38 rfl rfl rfl (f38_ok 40 hn a j hj (by omega))) (cons_bs d5 nil_bs)) (by simp)
  refine go_asg Ret (x := (dueD n [fun p => a (setb p j 0) || a (setb p j 1), fun p => a (setb p j 0) && a (setb p j 1), fun p => a (setb p j 0) != a (setb p j 1)], true)) (e1 := [.sh (.scr ns), .ow (drD l (t3 + 1 + 1 + 1)), .sh (nD n), .sh (nD (2 ^ n)), .sh (plD n), .sh dd, .ow (rowsD dl), .sh (rowsD on), .no, .no, .no, x11, .no, .no, .sh (fD n a), .sh (fD n b), .sh (fD n c), .sh (bD n a), .sh (bD n b), .sh (bD n c), x20, .sh (nD p), .sh (nD j), .sh (nD w), .sh (.str (tx n fun p => a (setb p j 0))), .sh (.str (tx n fun p => a (setb p j 1))), .no, .no, .no, .no, .no]) (lst_f (cons_bs t3b (cons_bs t4b (cons_bs t5b nil_bs))) rfl (by simp [sizeLine_eq])) rfl ?_
  clear d3 d4 d5 t3b t4b t5b
  obtain ⟨y11, y20, c1⟩ := l1 (.sh (.scr ns)) (.ow (drD l (t3 + 1 + 1 + 1))) (.sh (nD (2 ^ n))) (.sh (plD n)) (.ow (rowsD dl)) (.sh (rowsD on)) (.no) (.no) (.no) (x11) (.no) (.no) (.sh (fD n a)) (.sh (fD n b)) (.sh (fD n c)) (.sh (bD n a)) (.sh (bD n b)) (.sh (bD n c)) (x20) (.sh (nD p)) (.sh (nD j)) (.sh (nD w)) (.sh (.str (tx n fun p => a (setb p j 0)))) (.sh (.str (tx n fun p => a (setb p j 1)))) (.no) (.no) (.no) (.no) (.no) 40 (by omega) hn [fun p => a (setb p j 0) || a (setb p j 1), fun p => a (setb p j 0) && a (setb p j 1), fun p => a (setb p j 0) != a (setb p j 1)]
  refine go_nx Ret c1 ?_
  generalize dueD n [fun p => a (setb p j 0) || a (setb p j 1), fun p => a (setb p j 0) && a (setb p j 1), fun p => a (setb p j 0) != a (setb p j 1)] = de
  generalize (D.str (tx n fun p => a (setb p j 0))) = z0
  generalize (D.str (tx n fun p => a (setb p j 1))) = z1
  clear c1
  
  -- pairs
  obtain ⟨ps, t4, hps, h4, q7⟩ := g16 (.sh (.scr ns)) (.sh (nD (2 ^ n))) (.sh (plD n)) (.sh de) (.ow (rowsD dl)) (.sh (rowsD on)) (.no) (.no) (.no) (y11) (.no) (.no) (.sh (fD n a)) (.sh (fD n b)) (.sh (fD n c)) (.sh (bD n a)) (.sh (bD n b)) (.sh (bD n c)) (y20) (.sh (nD p)) (.sh (nD j)) (.sh (nD w)) (.sh z0) (.sh z1) (.no) (.no) (.no) (.no) (.no) 40 (by omega) hn l (t3 + 1 + 1 + 1) hs hl (by omega)
  refine go_asg Ret q7 rfl ?_
  clear q7
  
  show Ret ((exR G (fnEval G 40) [] _).x [.sh (.scr ns), .ow (drD l t4), .sh (nD n), .sh (nD (2 ^ n)), .sh (plD n), .sh de, .ow (rowsD dl), .sh (rowsD on), .ow (pD ps), .no, .no, y11, .no, .no, .sh (fD n a), .sh (fD n b), .sh (fD n c), .sh (bD n a), .sh (bD n b), .sh (bD n c), y20, .sh (nD p), .sh (nD j), .sh (nD w), .sh z0, .sh z1, .no, .no, .no, .no, .no])
  have A39 : (evR G (fnEval G 40) (.call 39 (.cons (.var 14) (.cons (.var 8) .nil)))).b [.sh (.scr ns), .ow (drD l t4), .sh (nD n), .sh (nD (2 ^ n)), .sh (plD n), .sh de, .ow (rowsD dl), .sh (rowsD on), .ow (pD ps), .no, .no, y11, .no, .no, .sh (fD n a), .sh (fD n b), .sh (fD n c), .sh (bD n a), .sh (bD n b), .sh (bD n c), y20, .sh (nD p), .sh (nD j), .sh (nD w), .sh z0, .sh z1, .no, .no, .no, .no, .no] = .ok (.dat (fD n (putA a ps))) [.sh (.scr ns), .ow (drD l t4), .sh (nD n), .sh (nD (2 ^ n)), .sh (plD n), .sh de, .ow (rowsD dl), .sh (rowsD on), .sh (pD ps), .no, .no, y11, .no, .no, .sh (fD n a), .sh (fD n b), .sh (fD n c), .sh (bD n a), .sh (bD n b), .sh (bD n c), y20, .sh (nD p), .sh (nD j), .sh (nD w), .sh z0, .sh z1, .no, .no, .no, .no, .no] := call_b (by
    rw [call_f (show (evR G (fnEval G 40) (.cons (.var 14) (.cons (.var 8) .nil))).bs [.sh (.scr ns), .ow (drD l t4), .sh (nD n), .sh (nD (2 ^ n)), .sh (plD n), .sh de, .ow (rowsD dl), .sh (rowsD on), .ow (pD ps), .no, .no, y11, .no, .no, .sh (fD n a), .sh (fD n b), .sh (fD n c), .sh (bD n a), .sh (bD n b), .sh (bD n c), y20, .sh (nD p), .sh (nD j), .sh (nD w), .sh z0, .sh z1, .no, .no, .no, .no, .no] = .ok [.dat (fD n a), .slot 8] [.sh (.scr ns), .ow (drD l t4), .sh (nD n), .sh (nD (2 ^ n)), .sh (plD n), .sh de, .ow (rowsD dl), .sh (rowsD on), .ow (pD ps), .no, .no, y11, .no, .no, .sh (fD n a), .sh (fD n b), .sh (fD n c), .sh (bD n a), .sh (bD n b), .sh (bD n c), y20, .sh (nD p), .sh (nD j), .sh (nD w), .sh z0, .sh z1, .no, .no, .no, .no, .no] from rfl), go39]
    show ((fnEval G 40 39 [.sh (fD n a), .sh (pD ps)]).res).put _ _ = _
    rw [f39_ok 40 hn a ps hps (by omega)]
    rfl)
  have e50 : (fun p => a (putQ p ps)) = putA a ps := funext fun p => (putA_eq ps a p hps).symm
  have B50 := f50_ok 40 hn a ps hps.lt hps.le (by omega)
  rw [e50] at B50
  refine go_ff Ret (e1 := [.sh (.scr ns), .ow (drD l t4), .sh (nD n), .sh (nD (2 ^ n)), .sh (plD n), .sh de, .ow (rowsD dl), .sh (rowsD on), .sh (pD ps), .no, .no, y11, .no, .no, .sh (fD n a), .sh (fD n b), .sh (fD n c), .sh (bD n a), .sh (bD n b), .sh (bD n c), y20, .sh (nD p), .sh (nD j), .sh (nD w), .sh z0, .sh z1, .no, .no, .no, .no, .no]) (leq_ff _ n44 A39 (callDb (e := [.sh (.scr ns), .ow (drD l t4), .sh (nD n), .sh (nD (2 ^ n)), .sh (plD n), .sh de, .ow (rowsD dl), .sh (rowsD on), .sh (pD ps), .no, .no, y11, .no, .no, .sh (fD n a), .sh (fD n b), .sh (fD n c), .sh (bD n a), .sh (bD n b), .sh (bD n c), y20, .sh (nD p), .sh (nD j), .sh (nD w), .sh z0, .sh z1, .no, .no, .no, .no, .no]) [fD n a, pD ps] n50 rfl rfl rfl B50) rfl rfl (lqF n _)) ?_
  clear A39 B50 e50 hps
  generalize pD ps = pp
  
  -- rows
  obtain ⟨m, hm, q8⟩ := dcall 40 1 l t4 4 hs hl (by omega) (by omega) (by omega) (.lit (.int 4)) [.sh (.scr ns), .ow (drD l t4), .sh (nD n), .sh (nD (2 ^ n)), .sh (plD n), .sh de, .ow (rowsD dl), .sh (rowsD on), .sh pp, .no, .no, y11, .no, .no, .sh (fD n a), .sh (fD n b), .sh (fD n c), .sh (bD n a), .sh (bD n b), .sh (bD n c), y20, .sh (nD p), .sh (nD j), .sh (nD w), .sh z0, .sh z1, .no, .no, .no, .no, .no] rfl rfl
  refine go_asg Ret q8 rfl ?_
  clear q8
  have hm10 : m ≤ 10 := by omega
  
  show Ret ((exR G (fnEval G 40) [] _).x [.sh (.scr ns), .ow (drD l (t4 + 1)), .sh (nD n), .sh (nD (2 ^ n)), .sh (plD n), .sh de, .ow (rowsD dl), .sh (rowsD on), .sh pp, .sh (nD m), .no, y11, .no, .no, .sh (fD n a), .sh (fD n b), .sh (fD n c), .sh (bD n a), .sh (bD n b), .sh (bD n c), y20, .sh (nD p), .sh (nD j), .sh (nD w), .sh z0, .sh z1, .no, .no, .no, .no, .no])
  obtain ⟨Rw, t5, h5, q9⟩ := g17 (.sh (.scr ns)) (.sh (nD (2 ^ n))) (.sh (plD n)) (.sh de) (.ow (rowsD dl)) (.sh (rowsD on)) (.sh pp) (.no) (y11) (.no) (.no) (.sh (fD n a)) (.sh (fD n b)) (.sh (fD n c)) (.sh (bD n a)) (.sh (bD n b)) (.sh (bD n c)) (y20) (.sh (nD p)) (.sh (nD j)) (.sh (nD w)) (.sh z0) (.sh z1) (.no) (.no) (.no) (.no) (.no) 40 (by omega) hn hm10 l (t4 + 1) hs hl (by omega)
  refine go_asg Ret q9 rfl ?_
  clear q9
  
  show Ret ((exR G (fnEval G 40) [] _).x [.sh (.scr ns), .ow (drD l t5), .sh (nD n), .sh (nD (2 ^ n)), .sh (plD n), .sh de, .ow (rowsD dl), .sh (rowsD on), .sh pp, .sh (nD m), .ow (rowsF m n Rw), y11, .no, .no, .sh (fD n a), .sh (fD n b), .sh (fD n c), .sh (bD n a), .sh (bD n b), .sh (bD n c), y20, .sh (nD p), .sh (nD j), .sh (nD w), .sh z0, .sh z1, .no, .no, .no, .no, .no])
  refine go_asg Ret (g19 (.sh (.scr ns)) (.ow (drD l t5)) (.sh (nD (2 ^ n))) (.sh (plD n)) (.sh de) (.ow (rowsD dl)) (.sh (rowsD on)) (.sh pp) (y11) (.no) (.no) (.sh (fD n b)) (.sh (fD n c)) (.sh (bD n a)) (.sh (bD n b)) (.sh (bD n c)) (y20) (.sh (nD p)) (.sh (nD j)) (.sh (nD w)) (.sh z0) (.sh z1) (.no) (.no) (.no) (.no) (.no) (fnEval G 40) hn hm10 a Rw) rfl ?_
  
  show Ret ((exR G (fnEval G 40) [] _).x [.sh (.scr ns), .ow (drD l t5), .sh (nD n), .sh (nD (2 ^ n)), .sh (plD n), .sh de, .ow (rowsD dl), .sh (rowsD on), .sh pp, .sh (nD m), .ow (rowsF m n Rw), .ow (bD m fun q => a (sel Rw n q)), .no, .no, .sh (fD n a), .sh (fD n b), .sh (fD n c), .sh (bD n a), .sh (bD n b), .sh (bD n c), y20, .sh (nD p), .sh (nD j), .sh (nD w), .sh z0, .sh z1, .no, .no, .no, .no, .no])
  have A40 : (evR G (fnEval G 40) (.call 40 (.cons (.var 14) (.cons (.var 10) .nil)))).b [.sh (.scr ns), .ow (drD l t5), .sh (nD n), .sh (nD (2 ^ n)), .sh (plD n), .sh de, .ow (rowsD dl), .sh (rowsD on), .sh pp, .sh (nD m), .ow (rowsF m n Rw), .ow (bD m fun q => a (sel Rw n q)), .no, .no, .sh (fD n a), .sh (fD n b), .sh (fD n c), .sh (bD n a), .sh (bD n b), .sh (bD n c), y20, .sh (nD p), .sh (nD j), .sh (nD w), .sh z0, .sh z1, .no, .no, .no, .no, .no] = .ok (.dat (fD m fun q => a (sel Rw n q))) [.sh (.scr ns), .ow (drD l t5), .sh (nD n), .sh (nD (2 ^ n)), .sh (plD n), .sh de, .ow (rowsD dl), .sh (rowsD on), .sh pp, .sh (nD m), .sh (rowsF m n Rw), .ow (bD m fun q => a (sel Rw n q)), .no, .no, .sh (fD n a), .sh (fD n b), .sh (fD n c), .sh (bD n a), .sh (bD n b), .sh (bD n c), y20, .sh (nD p), .sh (nD j), .sh (nD w), .sh z0, .sh z1, .no, .no, .no, .no, .no] := call_b (by
    rw [call_f (show (evR G (fnEval G 40) (.cons (.var 14) (.cons (.var 10) .nil))).bs [.sh (.scr ns), .ow (drD l t5), .sh (nD n), .sh (nD (2 ^ n)), .sh (plD n), .sh de, .ow (rowsD dl), .sh (rowsD on), .sh pp, .sh (nD m), .ow (rowsF m n Rw), .ow (bD m fun q => a (sel Rw n q)), .no, .no, .sh (fD n a), .sh (fD n b), .sh (fD n c), .sh (bD n a), .sh (bD n b), .sh (bD n c), y20, .sh (nD p), .sh (nD j), .sh (nD w), .sh z0, .sh z1, .no, .no, .no, .no, .no] = .ok [.dat (fD n a), .slot 10] [.sh (.scr ns), .ow (drD l t5), .sh (nD n), .sh (nD (2 ^ n)), .sh (plD n), .sh de, .ow (rowsD dl), .sh (rowsD on), .sh pp, .sh (nD m), .ow (rowsF m n Rw), .ow (bD m fun q => a (sel Rw n q)), .no, .no, .sh (fD n a), .sh (fD n b), .sh (fD n c), .sh (bD n a), .sh (bD n b), .sh (bD n c), y20, .sh (nD p), .sh (nD j), .sh (nD w), .sh z0, .sh z1, .no, .no, .no, .no, .no] from rfl), go40]
    show ((fnEval G 40 40 [.sh (fD n a), .sh (rowsF m n Rw)]).res).put _ _ = _
    rw [f40_ok 40 hn hn1 hm10 a Rw (by omega)]
    rfl)
  
  have B47 : (evR G (fnEval G 40) (.call 47 (.cons (.var 9) (.cons (.var 11) .nil)))).b [.sh (.scr ns), .ow (drD l t5), .sh (nD n), .sh (nD (2 ^ n)), .sh (plD n), .sh de, .ow (rowsD dl), .sh (rowsD on), .sh pp, .sh (nD m), .sh (rowsF m n Rw), .ow (bD m fun q => a (sel Rw n q)), .no, .no, .sh (fD n a), .sh (fD n b), .sh (fD n c), .sh (bD n a), .sh (bD n b), .sh (bD n c), y20, .sh (nD p), .sh (nD j), .sh (nD w), .sh z0, .sh z1, .no, .no, .no, .no, .no] = .ok (.dat (fD m fun q => a (sel Rw n q))) [.sh (.scr ns), .ow (drD l t5), .sh (nD n), .sh (nD (2 ^ n)), .sh (plD n), .sh de, .ow (rowsD dl), .sh (rowsD on), .sh pp, .sh (nD m), .sh (rowsF m n Rw), .sh (bD m fun q => a (sel Rw n q)), .no, .no, .sh (fD n a), .sh (fD n b), .sh (fD n c), .sh (bD n a), .sh (bD n b), .sh (bD n c), y20, .sh (nD p), .sh (nD j), .sh (nD w), .sh z0, .sh z1, .no, .no, .no, .no, .no] := call_b (by
    rw [call_f (show (evR G (fnEval G 40) (.cons (.var 9) (.cons (.var 11) .nil))).bs [.sh (.scr ns), .ow (drD l t5), .sh (nD n), .sh (nD (2 ^ n)), .sh (plD n), .sh de, .ow (rowsD dl), .sh (rowsD on), .sh pp, .sh (nD m), .sh (rowsF m n Rw), .ow (bD m fun q => a (sel Rw n q)), .no, .no, .sh (fD n a), .sh (fD n b), .sh (fD n c), .sh (bD n a), .sh (bD n b), .sh (bD n c), y20, .sh (nD p), .sh (nD j), .sh (nD w), .sh z0, .sh z1, .no, .no, .no, .no, .no] = .ok [.dat (nD m), .slot 11] [.sh (.scr ns), .ow (drD l t5), .sh (nD n), .sh (nD (2 ^ n)), .sh (plD n), .sh de, .ow (rowsD dl), .sh (rowsD on), .sh pp, .sh (nD m), .sh (rowsF m n Rw), .ow (bD m fun q => a (sel Rw n q)), .no, .no, .sh (fD n a), .sh (fD n b), .sh (fD n c), .sh (bD n a), .sh (bD n b), .sh (bD n c), y20, .sh (nD p), .sh (nD j), .sh (nD w), .sh z0, .sh z1, .no, .no, .no, .no, .no] from rfl), go47]
    show ((fnEval G 40 47 [.sh (nD m), .sh (bD m fun q => a (sel Rw n q))]).res).put _ _ = _
    have mm : (fnEval G 40 47 [.sh (nD m), .sh (bD m fun q => a (sel Rw n q))]).res = .ok (fD m fun q => a (sel Rw n q)) false := made 40 m (fun q => .bl (a (sel Rw n q))) (fun q => a (sel Rw n q)) hm10 (fun _ _ => rfl) (by omega)
    rw [mm]
    rfl)
  
  refine go_ff Ret (e1 := [.sh (.scr ns), .ow (drD l t5), .sh (nD n), .sh (nD (2 ^ n)), .sh (plD n), .sh de, .ow (rowsD dl), .sh (rowsD on), .sh pp, .sh (nD m), .sh (rowsF m n Rw), .sh (bD m fun q => a (sel Rw n q)), .no, .no, .sh (fD n a), .sh (fD n b), .sh (fD n c), .sh (bD n a), .sh (bD n b), .sh (bD n c), y20, .sh (nD p), .sh (nD j), .sh (nD w), .sh z0, .sh z1, .no, .no, .no, .no, .no]) (leq_ff _ n44 A40 B47 rfl rfl (lqF m _)) ?_
  clear A40 B47
  generalize bD m (fun q => a (sel Rw n q)) = vs
  generalize rowsF m n Rw = rr
  
  -- what is none
  obtain ⟨x12, c2⟩ := l2 (.sh (.scr ns)) (.ow (drD l t5)) (.sh (nD (2 ^ n))) (.sh (plD n)) (.sh de) (.ow (rowsD dl)) (.sh (rowsD on)) (.sh pp) (.sh (nD m)) (.sh rr) (.sh vs) (.no) (.no) (.sh (fD n b)) (.sh (fD n c)) (.sh (bD n a)) (.sh (bD n b)) (.sh (bD n c)) (y20) (.sh (nD p)) (.sh (nD j)) (.sh (nD w)) (.sh z0) (.sh z1) (.no) (.no) (.no) (.no) (.no) hn a
  refine go_nx Ret c2 ?_
  clear c2
  
  have e3 : (evR G (fnEval G 40) (.tup (.cons (.bin .Sub (.var 2) (.lit (.int 1))) (.cons (.bin .Mult (.lit (.str [48])) (.bin .FloorDiv (.var 3) (.lit (.int 2)))) .nil)))).b [.sh (.scr ns), .ow (drD l t5), .sh (nD n), .sh (nD (2 ^ n)), .sh (plD n), .sh de, .ow (rowsD dl), .sh (rowsD on), .sh pp, .sh (nD m), .sh rr, .sh vs, x12, .no, .sh (fD n a), .sh (fD n b), .sh (fD n c), .sh (bD n a), .sh (bD n b), .sh (bD n c), y20, .sh (nD p), .sh (nD j), .sh (nD w), .sh z0, .sh z1, .no, .no, .no, .no, .no] = .ok (.dat (fD (n - 1) fun _ => false)) [.sh (.scr ns), .ow (drD l t5), .sh (nD n), .sh (nD (2 ^ n)), .sh (plD n), .sh de, .ow (rowsD dl), .sh (rowsD on), .sh pp, .sh (nD m), .sh rr, .sh vs, x12, .no, .sh (fD n a), .sh (fD n b), .sh (fD n c), .sh (bD n a), .sh (bD n b), .sh (bD n c), y20, .sh (nD p), .sh (nD j), .sh (nD w), .sh z0, .sh z1, .no, .no, .no, .no, .no] := by
    refine tup_b (ds := [nD (n - 1), .str (tx (n - 1) fun _ => false)]) (cons_bs (e1 := [.sh (.scr ns), .ow (drD l t5), .sh (nD n), .sh (nD (2 ^ n)), .sh (plD n), .sh de, .ow (rowsD dl), .sh (rowsD on), .sh pp, .sh (nD m), .sh rr, .sh vs, x12, .no, .sh (fD n a), .sh (fD n b), .sh (fD n c), .sh (bD n a), .sh (bD n b), .sh (bD n c), y20, .sh (nD p), .sh (nD j), .sh (nD w), .sh z0, .sh z1, .no, .no, .no, .no, .no]) ?_ (cons_bs ?_ nil_bs)) (by simp)
    · have sb := nSub hn1
      simp [sb, exR, evR, lineOk, sizeLine_eq, ofX, ofF, noR, R.out, R.bind, R.of, with1, with2, withs, Bor.res, Bor.frz, ress, frzs, bl2, dat, Sl.get?, Sl.frz, mkSl, Out.res, Res.put, mkArgs, ioAt, doCall, putIos, nd0, nd1, ndl, ndc, nAdd, nSub, nMul, nMod, nShl, nShr, nAnd, nXor, nPow, sAdd, lAdd, rAdd, tAdd, cEqN, cEqS, cEqB, cNeN, cNeS, cNeB, cLt, cLe, cGt, cGe, cIs, cIsN, isNonN, isNonS, isNonL, isNonR, isNonT, isNonB, isNon0, inS, ninS, tN, tB, tL, tT, tR, t0, bLenL, bLenT, bLenR, bLenS, bIntN, bMin, bMax, bSum, bLstL, bLstT, bTupL, bTupT, ixL, ixT, ixR, ixS, isiN, isiR, flatN, flatR, mutN, mutR, itR, itL, itT, itS, cNilR, cNilN, cNilL, cNilM, meTyJ, inR, ninR, flat0, flatB, flatI, flatS, flatF, flatL, flatT, flatD, mut0, mutB, mutI, mutS, mutF, mutL, mutT, mutD, isi0, isiB, isiI, isiS, isiL, isiT, isiDc, muOk, muTyR, muTyL, muAR, muAL, setR, bAbs]
    · have dv := nDiv (a := 2 ^ n) (b := 2) (by omega) (by omega)
      have e2 : 2 ^ n / 2 = 2 ^ (n - 1) := by
        obtain ⟨d, rfl⟩ : ∃ d, n = d + 1 := ⟨n - 1, by omega⟩
        rw [Nat.pow_succ, Nat.add_sub_cancel]
        omega
      rw [e2] at dv
      have pp1 : 2 ^ (n - 1) ≤ 2 ^ n := Nat.pow_le_pow_right (by decide) (by omega)
      have m2 := sMul (a := [ch false]) (n := 2 ^ (n - 1)) (by simp; omega) (by omega)
      rw [tx_const] at m2
      have m2 : binD .Mult (.str [48]) (nD (2 ^ (n - 1))) = some (.str (tx (n - 1) fun _ => false), false) := m2
      generalize tx (n - 1) (fun _ => false) = tt at m2 ⊢
      generalize 2 ^ (n - 1) = w1 at dv m2
      generalize 2 ^ n = w2 at dv ⊢
      simp [dv, m2, exR, evR, lineOk, sizeLine_eq, ofX, ofF, noR, R.out, R.bind, R.of, with1, with2, withs, Bor.res, Bor.frz, ress, frzs, bl2, dat, Sl.get?, Sl.frz, mkSl, Out.res, Res.put, mkArgs, ioAt, doCall, putIos, nd0, nd1, ndl, ndc, nAdd, nSub, nMul, nMod, nShl, nShr, nAnd, nXor, nPow, sAdd, lAdd, rAdd, tAdd, cEqN, cEqS, cEqB, cNeN, cNeS, cNeB, cLt, cLe, cGt, cGe, cIs, cIsN, isNonN, isNonS, isNonL, isNonR, isNonT, isNonB, isNon0, inS, ninS, tN, tB, tL, tT, tR, t0, bLenL, bLenT, bLenR, bLenS, bIntN, bMin, bMax, bSum, bLstL, bLstT, bTupL, bTupT, ixL, ixT, ixR, ixS, isiN, isiR, flatN, flatR, mutN, mutR, itR, itL, itT, itS, cNilR, cNilN, cNilL, cNilM, meTyJ, inR, ninR, flat0, flatB, flatI, flatS, flatF, flatL, flatT, flatD, mut0, mutB, mutI, mutS, mutF, mutL, mutT, mutD, isi0, isiB, isiI, isiS, isiL, isiT, isiDc, muOk, muTyR, muTyL, muAR, muAL, setR, bAbs]
  have tp : ∀ {A B C : SE} {x y z : D}, (evR G (fnEval G 40) A).b [.sh (.scr ns), .ow (drD l t5), .sh (nD n), .sh (nD (2 ^ n)), .sh (plD n), .sh de, .ow (rowsD dl), .sh (rowsD on), .sh pp, .sh (nD m), .sh rr, .sh vs, x12, .no, .sh (fD n a), .sh (fD n b), .sh (fD n c), .sh (bD n a), .sh (bD n b), .sh (bD n c), y20, .sh (nD p), .sh (nD j), .sh (nD w), .sh z0, .sh z1, .no, .no, .no, .no, .no] = .ok (.dat x) [.sh (.scr ns), .ow (drD l t5), .sh (nD n), .sh (nD (2 ^ n)), .sh (plD n), .sh de, .ow (rowsD dl), .sh (rowsD on), .sh pp, .sh (nD m), .sh rr, .sh vs, x12, .no, .sh (fD n a), .sh (fD n b), .sh (fD n c), .sh (bD n a), .sh (bD n b), .sh (bD n c), y20, .sh (nD p), .sh (nD j), .sh (nD w), .sh z0, .sh z1, .no, .no, .no, .no, .no] → (evR G (fnEval G 40) B).b [.sh (.scr ns), .ow (drD l t5), .sh (nD n), .sh (nD (2 ^ n)), .sh (plD n), .sh de, .ow (rowsD dl), .sh (rowsD on), .sh pp, .sh (nD m), .sh rr, .sh vs, x12, .no, .sh (fD n a), .sh (fD n b), .sh (fD n c), .sh (bD n a), .sh (bD n b), .sh (bD n c), y20, .sh (nD p), .sh (nD j), .sh (nD w), .sh z0, .sh z1, .no, .no, .no, .no, .no] = .ok (.dat y) [.sh (.scr ns), .ow (drD l t5), .sh (nD n), .sh (nD (2 ^ n)), .sh (plD n), .sh de, .ow (rowsD dl), .sh (rowsD on), .sh pp, .sh (nD m), .sh rr, .sh vs, x12, .no, .sh (fD n a), .sh (fD n b), .sh (fD n c), .sh (bD n a), .sh (bD n b), .sh (bD n c), y20, .sh (nD p), .sh (nD j), .sh (nD w), .sh z0, .sh z1, .no, .no, .no, .no, .no] → (evR G (fnEval G 40) C).b [.sh (.scr ns), .ow (drD l t5), .sh (nD n), .sh (nD (2 ^ n)), .sh (plD n), .sh de, .ow (rowsD dl), .sh (rowsD on), .sh pp, .sh (nD m), .sh rr, .sh vs, x12, .no, .sh (fD n a), .sh (fD n b), .sh (fD n c), .sh (bD n a), .sh (bD n b), .sh (bD n c), y20, .sh (nD p), .sh (nD j), .sh (nD w), .sh z0, .sh z1, .no, .no, .no, .no, .no] = .ok (.dat z) [.sh (.scr ns), .ow (drD l t5), .sh (nD n), .sh (nD (2 ^ n)), .sh (plD n), .sh de, .ow (rowsD dl), .sh (rowsD on), .sh pp, .sh (nD m), .sh rr, .sh vs, x12, .no, .sh (fD n a), .sh (fD n b), .sh (fD n c), .sh (bD n a), .sh (bD n b), .sh (bD n c), y20, .sh (nD p), .sh (nD j), .sh (nD w), .sh z0, .sh z1, .no, .no, .no, .no, .no] → (evR G (fnEval G 40) (.tup (.cons A (.cons B (.cons C .nil))))).b [.sh (.scr ns), .ow (drD l t5), .sh (nD n), .sh (nD (2 ^ n)), .sh (plD n), .sh de, .ow (rowsD dl), .sh (rowsD on), .sh pp, .sh (nD m), .sh rr, .sh vs, x12, .no, .sh (fD n a), .sh (fD n b), .sh (fD n c), .sh (bD n a), .sh (bD n b), .sh (bD n c), y20, .sh (nD p), .sh (nD j), .sh (nD w), .sh z0, .sh z1, .no, .no, .no, .no, .no] = .ok (.dat (.tup [x, y, z])) [.sh (.scr ns), .ow (drD l t5), .sh (nD n), .sh (nD (2 ^ n)), .sh (plD n), .sh de, .ow (rowsD dl), .sh (rowsD on), .sh pp, .sh (nD m), .sh rr, .sh vs, x12, .no, .sh (fD n a), .sh (fD n b), .sh (fD n c), .sh (bD n a), .sh (bD n b), .sh (bD n c), y20, .sh (nD p), .sh (nD j), .sh (nD w), .sh z0, .sh z1, .no, .no, .no, .no, .no] := fun h1 h2 h3 => tup_b (ds := [_, _, _]) (cons_bs h1 (cons_bs h2 (cons_bs h3 nil_bs))) (by simp)
  refine go_asg Ret (x := (.lst ((nones n a).map fun z => .tup [.fn z.1, z.2.1, z.2.2]), true)) (e1 := [.sh (.scr ns), .ow (drD l t5), .sh (nD n), .sh (nD (2 ^ n)), .sh (plD n), .sh de, .ow (rowsD dl), .sh (rowsD on), .sh pp, .sh (nD m), .sh rr, .sh vs, x12, .no, .sh (fD n a), .sh (fD n b), .sh (fD n c), .sh (bD n a), .sh (bD n b), .sh (bD n c), y20, .sh (nD p), .sh (nD j), .sh (nD w), .sh z0, .sh z1, .no, .no, .no, .no, .no]) (lst_f (cons_bs (tp rfl rfl rfl) (cons_bs (tp rfl rfl rfl) (cons_bs (tp rfl rfl e3) (cons_bs (tp rfl rfl rfl) (cons_bs (tp rfl rfl rfl) (cons_bs (tp rfl rfl rfl) (cons_bs (tp rfl rfl rfl) (cons_bs (tp rfl rfl rfl) nil_bs)))))))) rfl (by simp [nones, sizeLine_eq])) rfl ?_
  clear e3 tp
  obtain ⟨x17, x18, x26, c3⟩ := l3 (.sh (.scr ns)) (.ow (drD l t5)) (.sh (nD n)) (.sh (nD (2 ^ n))) (.sh (plD n)) (.sh de) (.ow (rowsD dl)) (.sh (rowsD on)) (.sh pp) (.sh (nD m)) (.sh rr) (.sh vs) (x12) (.sh (fD n a)) (.sh (fD n b)) (.sh (fD n c)) (.sh (bD n a)) (.sh (bD n b)) (.sh (bD n c)) (y20) (.sh (nD p)) (.sh (nD j)) (.sh (nD w)) (.sh z0) (.sh z1) (.no) (.no) (.no) (.no) (.no) hn6 hn1 a
  refine go_nx Ret c3 ?_
  refine go_ret Ret (x := (.bl true, false)) (by intro i h; cases h) rfl ?_
  exact ⟨false, _, rfl⟩
end K00
namespace K00
open PySem PySem.Spec PyProof.Rows L2
def top (i : Nat) : Stmt := PySem.Challenge.pw_everyswitch_k00_functions_worked.main.body.getD i (.Pass ⟨0, 0, 0, 0⟩)
def dd (n : String) (i : Nat) : He.DefD := ⟨(Str.ofString n, none), Str.ofString n, Str.ofString n, defArgs (top i), defBody (top i), defScope (top i), [], []⟩
def fn : List He.DefD := [dd "is_number" 5, dd "check_number" 6, dd "is_rising" 7, dd "is_bits" 8, dd "two_to" 9, dd "bit" 10, dd "is_function" 13, dd "check_function" 14, dd "check_two" 15, dd "check_input" 16, dd "check_variable" 17, dd "check_value" 18, dd "value_at" 19, dd "ones_in" 20, dd "ones_of" 21, dd "function_of" 22, dd "with_ones" 23, dd "constant" 24, dd "variable" 25, dd "not_of" 26, dd "turned" 27, dd "both_of" 28, dd "both" 29, dd "either_of" 30, dd "either" 31] ++ [dd "unlike_of" 32, dd "unlike" 33, dd "within" 34, dd "is_within" 35, dd "first_unlike" 36, dd "chosen" 37, dd "with_bit" 38, dd "put_in" 39, dd "put" 40, dd "left_out" 41, dd "without" 42, dd "there_is" 43, dd "for_all" 44, dd "moves" 45, dd "put_all" 46, dd "composed" 47, dd "_law_mixed" 49, dd "_law_numbers" 50, dd "_law_draw" 51, dd "_law_equal" 52, dd "_law_all_equal" 53, dd "_law_function" 54, dd "_law_made" 55, dd "_law_bit" 56, dd "_law_ones" 57] ++ [dd "_law_put" 58, dd "law" 59]
def fa : List He.Fa := [.glo "is_number", .glo "check_number", .glo "is_rising", .glo "is_bits", .glo "two_to", .glo "bit", .glo "is_function", .glo "check_function", .glo "check_two", .glo "check_input", .glo "check_variable", .glo "check_value", .glo "value_at", .glo "ones_in", .glo "ones_of", .glo "function_of", .glo "with_ones", .glo "constant", .glo "variable", .glo "not_of", .glo "turned", .glo "both_of", .glo "both", .glo "either_of", .glo "either"] ++ [.glo "unlike_of", .glo "unlike", .glo "within", .glo "is_within", .glo "first_unlike", .glo "chosen", .glo "with_bit", .glo "put_in", .glo "put", .glo "left_out", .glo "without", .glo "there_is", .glo "for_all", .glo "moves", .glo "put_all", .glo "composed", .glo "_law_mixed", .glo "_law_numbers", .glo "_law_draw", .glo "_law_equal", .glo "_law_all_equal", .glo "_law_function", .glo "_law_made", .glo "_law_bit", .glo "_law_ones"] ++ [.glo "_law_put", .glo "law", .glo "SwitchError", .glo "BadFunction", .glo "BadArgument", .free "len", .free "int", .free "str", .free "abs", .free "sum", .free "min", .free "max", .free "sorted", .free "list", .free "tuple", .free "isinstance", .free "range", .free "bool", .free "dict", .exc "SwitchError", .exc "BadFunction", .exc "BadArgument", .exm "SwitchError" "SwitchError" true, .exm "SwitchError" "BadFunction" false, .exm "SwitchError" "BadArgument" false] ++ [.exm "BadFunction" "SwitchError" true, .exm "BadFunction" "BadFunction" true, .exm "BadFunction" "BadArgument" false, .exm "BadArgument" "SwitchError" true, .exm "BadArgument" "BadFunction" false, .exm "BadArgument" "BadArgument" true, .int "MOST_VARIABLES" 10]
def names : List Str := (["is_number", "check_number", "is_rising", "is_bits", "two_to", "bit", "is_function", "check_function", "check_two", "check_input", "check_variable", "check_value", "value_at", "ones_in", "ones_of", "function_of", "with_ones", "constant", "variable", "not_of", "turned", "both_of", "both", "either_of", "either"] : List Str) ++ (["unlike_of", "unlike", "within", "is_within", "first_unlike", "chosen", "with_bit", "put_in", "put", "left_out", "without", "there_is", "for_all", "moves", "put_all", "composed", "_law_mixed", "_law_numbers", "_law_draw", "_law_equal", "_law_all_equal", "_law_function", "_law_made", "_law_bit", "_law_ones"] : List Str) ++ (["_law_put", "SwitchError", "BadFunction", "BadArgument", "MOST_VARIABLES"] : List Str)
theorem allOk : EV.allB G fn = true := by decide +kernel
theorem factsOk : EV.factsB G fa = true := by decide +kernel
abbrev R : PySem.W.OpenRow := PySem.W.OpenLaw.row PySem.Challenge.rw_everyswitch_k00_functions_worked
abbrev hk : PySem.W.Hook := He.hookD 4 fa fn
def ob (s : PySem.W.SharedT) : He.AlD := He.obsDG 4 fa fn (HandSHeadRun.getT s)
theorem ob_eq (s : PySem.W.SharedT) : ob s = hk.obs s.abs := He.obsDG_eq (HandSHeadRun.getT_eq s)
theorem run (w : World) : HandSHeadRun.RunEq R (PySem.W.view R.prog [59]) hk ob 20000 names w := by
  intro os
  kernel_rfl
end K00
open PySem PySem.W PySem.Calls PyProof.Rows
theorem PySem.Challenge.cw_everyswitch_k00_functions_worked_holds : PySem.Challenge.rw_everyswitch_k00_functions_worked.Holds := by
  w_on; o_law
  refine HandSHeadRun.head_any (r := OpenLaw.row PySem.Challenge.rw_everyswitch_k00_functions_worked) (q := view (OpenLaw.row PySem.Challenge.rw_everyswitch_k00_functions_worked).prog [59]) (H := K00.hk) (ob := K00.ob) (M := 20000) (loose := K00.names) (d := HandSHeadRun.topDef (OpenLaw.row PySem.Challenge.rw_everyswitch_k00_functions_worked).prog 59) (kwd := []) K00.ob_eq
    (by kernel_rfl) (fun s => by kernel_rfl) K00.run (by kernel_rfl) (by kernel_rfl) (by kernel_rfl) (by rfl) (by first | assumption | decide +kernel) (by decide +kernel) ⟨rfl, rfl, rfl, rfl, rfl, by decide +kernel⟩ ?hw ?hc
  case hw => w_witness2
  case hc =>
    refine L2.walk_ofE (l := PySem.Challenge.rw_everyswitch_k00_functions_worked) (n := 63) (k := 40 + 1) (x := "script") (CX := L2.CX0) rfl (by decide) (by kernel_rfl) ⟨rfl, by decide, by decide⟩ ?F (fun _ _ _ _ z => z)
    intro w mg fad h Y N hmg0
    obtain ⟨K, KX, c⟩ := Y
    have hmg : mg ("law" : PySem.Str) = some (.ref fad) := by
      have e : (HandSHeadRun.topDef (OpenLaw.row PySem.Challenge.rw_everyswitch_k00_functions_worked).prog 59).name = ("law" : PySem.Str) := by kernel_rfl
      rw [← e]
      exact hmg0
    exact EV.law_end (G := K00.G) (fn := K00.fn) (fa := K00.fa) (f := 51) (fi := K00.f51) (d := K00.dd "law" 59) KX N c K00.allOk K00.factsOk rfl rfl rfl rfl hmg K00.main
