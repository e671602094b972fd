import PyProof.Rows.All
import Wide.All
import OpenK.AllK
import Wide.FinOn
import HandS.Text
import HandS.Base
import HandS.Call
import HandS.List
import HandS.Comp
import HandS.Dict
import HandS.Iter
import HandS.Exc
import HandS.Codes
import HandS.TryOnly
import HandS.Lambda
import HandS.EndBits
import HandS.EndTab
import HandS.ExcOwn
import HandS.ExcInit
import HandS.ExcIs
import HandS.ExcField
import KE.KExcIs
import HandS.IsInst
import HandS.Wide
import HandS.WideBits
import HandS.Flow
import HandS.Style
import HandS.Conv
import HandS.Defaults
import HandS.CallLocal
import HandS.CallSlots
import HandS.Zip
import HandS.Head2
import HandS.HeadEnd
import HandS.HeadHook1
import HandS.HeadHook2
import HandS.HeadHook4
import HandS.HeadWalk
import HandS.Head0
import HandS.Head1
import KE.KStateDown
import PySem.Challenge.RW_wheelsky_k01_sums
set_option Elab.async false
set_option linter.all false
set_option maxRecDepth 100000
set_option maxHeartbeats 0
set_option exponentiation.threshold 300
/-! F1: a small language, its data trees and its evaluator. -/
namespace RX
open PySem

/-- a dict's key: an int or a text (its codes) -/
abbrev Ky := Sum Int (List Nat)

/-- data trees. lst, dic: lists and dicts that are not changed any more; frz: a locked list (the script); ref: a mutable cell; fn: a def; exc: a caught error -/
inductive D where
  | non
  | bl (b : Bool)
  | int (i : Int)
  | str (x : List Nat)
  | tup (xs : List D)
  | lst (xs : List D)
  | frz (xs : List D)
  | dic (kvs : List (Ky × D))
  | obj (C : String) (fs : List (String × D))
  | ref (i : Nat)
  | fn (f : String)
  | exc (C : String) (fs : List (String × D))
  deriving Inhabited

/-- a slot of a frame: empty, a value, a list (dict) of the frame's own, one that is lent -/
inductive Sl where
  | no | val (d : D) | own (d : D) | len (d : D)
  deriving Inhabited

/-- the state: the frame's slots, the cells -/
structure W where
  sl : List Sl
  cs : List D

inductive R (α : Type) where
  | ok (a : α) (w : W)
  | ex (C : String) (fs : List (String × D)) (w : W)
  | bad

def R.bind {α β : Type} : R α → (α → W → R β) → R β
  | .ok a w, f => f a w
  | .ex C fs w, _ => .ex C fs w
  | .bad, _ => .bad

/-- a call's end: the value, whether it is a new list that nobody else holds, the cells -/
inductive CR where
  | ok (d : D) (fr : Bool) (cs : List D)
  | ex (C : String) (fs : List (String × D)) (cs : List D)
  | bad

inductive Flow where
  | next | ret (d : D) (fr : Bool) | brk | cnt

/-! ### operations -/
def mulOk (i j : Int) : Bool := decide (Builtin.Int.intBits i + Builtin.Int.intBits j ≤ 134217728)
def divOk (i j : Int) : Bool := decide (j ≠ 0) && !Builtin.divisionGoesByPylong i j
def powOk (i j : Int) : Bool := decide (0 ≤ j) && decide (j ≤ 1000000) && decide (i.natAbs < 18446744073709551616)
def lineOk (n : Nat) : Bool := decide (n ≤ 16777216)

def binop : Operator → D → D → Option D
  | .Add, .int i, .int j => some (.int (i + j))
  | .Add, .str x, .str y => if lineOk (x.length + y.length) then some (.str (x ++ y)) else none
  | .Add, .lst x, .lst y => if lineOk (x.length + y.length) then some (.lst (x ++ y)) else none
  | .Sub, .int i, .int j => some (.int (i - j))
  | .Mult, .int i, .int j => if mulOk i j then some (.int (i * j)) else none
  | .FloorDiv, .int i, .int j => if divOk i j then some (.int (i.fdiv j)) else none
  | .Mod, .int i, .int j => if j ≠ 0 then some (.int (i.fmod j)) else none
  | .Pow, .int i, .int j => if powOk i j then some (.int (i ^ j.toNat)) else none
  | _, _, _ => none

mutual
def toPy : D → Option PyData
  | .non => some .none
  | .bl b => some (.bool b)
  | .int i => some (.int i)
  | .str x => some (.str ⟨x.toArray⟩)
  | .tup xs => (toPys xs).map .tuple
  | .lst xs => (toPys xs).map .list
  | _ => none
def toPys : List D → Option (List PyData)
  | [] => some []
  | d :: r => match toPy d, toPys r with
    | some p, some q => some (p :: q)
    | _, _ => none
end
def deepEq (x y : D) : Option Bool := match toPy x, toPy y with
  | some p, some q => if SeqAt.shaped p && SeqAt.shaped q then some (PyData.eqv p q) else none
  | _, _ => none
/-- == -/
def eqOp : D → D → Option Bool
  | .int i, .int j => some (decide (i = j))
  | .str x, .str y => some (decide (x = y))
  | .bl x, .bl y => some (decide (x = y))
  | x, y => deepEq x y

def cmpop : CmpOp → D → D → Option Bool
  | .Lt, .int i, .int j => some (decide (i < j))
  | .LtE, .int i, .int j => some (decide (i ≤ j))
  | .Gt, .int i, .int j => some (decide (j < i))
  | .GtE, .int i, .int j => some (decide (j ≤ i))
  | .Eq, x, y => eqOp x y
  | .NotEq, x, y => (eqOp x y).map (!·)
  | .Is, .non, .non => some true
  | .Is, .fn _, .non => some false
  | .Is, .bl x, .bl y => some (decide (x = y))
  | .Is, .exc _ _, _ => none
  | .Is, _, .non => some false
  | .Is, _, _ => none
  | .IsNot, .non, .non => some false
  | .IsNot, .fn _, .non => some true
  | .IsNot, .bl x, .bl y => some (!decide (x = y))
  | .IsNot, .exc _ _, _ => none
  | .IsNot, _, .non => some true
  | .IsNot, _, _ => none
  | _, _, _ => none

def truth : D → Option Bool
  | .non => some false
  | .bl b => some b
  | .int i => some (i != 0)
  | .str x => if lineOk x.length then some (!x.isEmpty) else none
  | .tup xs => some (!xs.isEmpty)
  | .lst xs => some (!xs.isEmpty)
  | .dic kvs => some (!kvs.isEmpty)
  | _ => none

def valK (kvs : List (Ky × D)) (k : Ky) : Option D := (kvs.find? fun kv => decide (kv.1 = k)).map (·.2)
def putK (kvs : List (Ky × D)) (k : Ky) (d : D) : List (Ky × D) :=
  if (kvs.any fun kv => decide (kv.1 = k)) = true then kvs.map (fun kv => if kv.1 = k then (kv.1, d) else kv) else kvs ++ [(k, d)]
/-- the place that an index names -/
def ixOf (n : Nat) (i : Int) : Option Nat :=
  if 0 ≤ i then (if i < n then some i.toNat else none) else (if -(n : Int) ≤ i then some (i + n).toNat else none)
def itemOf : D → D → Option D
  | .lst xs, .int i => (ixOf xs.length i).bind fun j => xs[j]?
  | .tup xs, .int i => (ixOf xs.length i).bind fun j => xs[j]?
  | .str x, .int i => if lineOk x.length then (ixOf x.length i).bind fun j => (x[j]?).map fun c => .str [c] else none
  | .dic kvs, .int i => valK kvs (.inl i)
  | .dic kvs, .str x => valK kvs (.inr x)
  | _, _ => none
/-- a slice's end in a length -/
def sIx (n dflt : Nat) : Option Int → Nat
  | none => dflt
  | some i => if i < 0 then (i + n).toNat else min i.toNat n
def cut {α : Type} (xs : List α) (lo hi : Option Int) : List α := (xs.drop (sIx xs.length 0 lo)).take (sIx xs.length xs.length hi - sIx xs.length 0 lo)

inductive B1 where
  | len | abs | int | list | tuple | bitlen | upper | lvals | rev | all | any | sum | bool
  deriving DecidableEq
inductive B2 where
  | min | max | join | divmod
  deriving DecidableEq

def keyD : Ky → D
  | .inl i => .int i
  | .inr x => .str x
def upperC (x : List Nat) : List Nat := (PySem.Txt.upper ⟨x.toArray⟩).cps.toList
def boolsOf : List D → Option (List Bool)
  | [] => some []
  | .bl b :: r => (boolsOf r).map (b :: ·)
  | _ => none
def intsOf : List D → Option (List Int)
  | [] => some []
  | .int i :: r => (intsOf r).map (i :: ·)
  | _ => none
def textsOf : List D → Option (List (List Nat))
  | [] => some []
  | .str x :: r => (textsOf r).map (x :: ·)
  | _ => none
def joinT (sep : List Nat) : List (List Nat) → List Nat
  | [] => []
  | [x] => x
  | x :: y :: r => x ++ sep ++ joinT sep (y :: r)

def b1 : B1 → D → Option D
  | .len, .str x => if lineOk x.length then some (.int x.length) else none
  | .len, .lst xs => some (.int xs.length)
  | .len, .frz xs => some (.int xs.length)
  | .len, .tup xs => some (.int xs.length)
  | .abs, .int i => some (.int (if i < 0 then -i else i))
  | .int, .int i => some (.int i)
  | .int, .bl b => some (.int (if b then 1 else 0))
  | .bool, .int i => some (.bl (i != 0))
  | .bool, .bl b => some (.bl b)
  | .list, .lst xs => some (.lst xs)
  | .list, .frz xs => some (.lst xs)
  | .list, .tup xs => some (.lst xs)
  | .list, .dic kvs => some (.lst (kvs.map fun p => keyD p.1))
  | .lvals, .dic kvs => some (.lst (kvs.map fun p => p.2))
  | .tuple, .lst xs => some (.tup xs)
  | .tuple, .tup xs => some (.tup xs)
  | .bitlen, .int i => some (.int (Builtin.Int.intBits i))
  | .upper, .str x => if decide (x.length ≤ 5592405) then some (.str (upperC x)) else none
  | .rev, .lst xs => some (.lst xs.reverse)
  | .all, .lst xs => (boolsOf xs).map fun bs => .bl (bs.all id)
  | .any, .lst xs => (boolsOf xs).map fun bs => .bl (bs.any id)
  | .sum, .lst xs => (intsOf xs).map fun ns => .int ns.sum
  | _, _ => none

def b2 : B2 → D → D → Option D
  | .min, .int i, .int j => some (.int (if j < i then j else i))
  | .max, .int i, .int j => some (.int (if j > i then j else i))
  | .join, .str s, .lst xs => (textsOf xs).bind fun ts => if lineOk ((ts.map (fun t => t.length + s.length)).sum) then some (.str (joinT s ts)) else none
  | .divmod, .int i, .int j => if decide (0 < j) && divOk i j then some (.tup [.int (i.fdiv j), .int (i.fmod j)]) else none
  | _, _, _ => none

/-- a class that isinstance names: a built-in type, a class of the text -/
inductive Cn where
  | ty (n : String) | cl (n : String)
/-- errors: every own error class stands under "SkyError" -/
def isExc (C c : String) : Bool := decide (C = c) || decide (c = "SkyError")
def isInst : D → Cn → Option Bool
  | .exc C _, .cl c => some (isExc C c)
  | .exc _ _, .ty n => if n = "ValueError" then some true else none
  | .obj _ _, _ => none
  | .ref _, _ => none
  | .frz _, _ => none
  | .fn _, _ => none
  | _, .cl _ => some false
  | .int _, .ty n => some (decide (n = "int"))
  | .bl _, .ty n => some (decide (n = "bool") || decide (n = "int"))
  | .str _, .ty n => some (decide (n = "str"))
  | .tup _, .ty n => some (decide (n = "tuple"))
  | .lst _, .ty n => some (decide (n = "list"))
  | .dic _, .ty n => some (decide (n = "dict"))
  | .non, .ty _ => some false
def isLoop (d : D) : List Cn → Option Bool
  | [] => some false
  | c :: r => match isInst d c, isLoop d r with
    | some a, some b => some (a || b)
    | _, _ => none
def plainD : D → Bool
  | .non | .bl _ | .int _ | .str _ | .tup _ | .lst _ | .dic _ => true
  | _ => false
def isInsts (d : D) : List Cn → Option Bool
  | [c] => isInst d c
  | cs => if plainD d then isLoop d cs else none

def keyOf : D → Option Ky
  | .int i => some (.inl i)
  | .str x => some (.inr x)
  | _ => none
/-- o[i] = d -/
def setOf : D → D → D → Option D
  | .lst xs, .int i, d => (ixOf xs.length i).map fun j => .lst (xs.set j d)
  | .dic kvs, k, d => (keyOf k).bind fun k => if lineOk (kvs.length + 1) then some (.dic (putK kvs k d)) else none
  | _, _, _ => none

/-! ### expressions -/
inductive E where
  | nm (i : Nat) | bor (i : Nat)
  | kI (i : Int) | kS (x : List Nat) | kB (b : Bool) | kN
  | glo (f : String)
  | bin (o : Operator) (a b : E)
  | neg (a : E)
  | not (a : E) | and (as : E) | or (as : E)
  | cmp (o : CmpOp) (a b : E)
  | cmp2 (o p : CmpOp) (a b c : E)
  | ife (c a b : E)
  | call (f : String) (as : E)
  | callv (i : Nat) (fs : List String) (as : E)
  | ask (f : String) (body : E)
  | bu (f : B1) (a : E)
  | bb (f : B2) (a b : E)
  | isi (a : E) (cs : List Cn)
  | ix (a b : E)
  | slc (a lo hi : E) | hole
  | tupD (as : E) | lstD (as : E) | dicD (as : E)
  | comp (tg : Nat) (it cd el : E)
  | itv (a : E) | rng1 (a : E) | rng2 (a b : E)
  | attr (f : String) (a : E)
  | nil | cons (a b : E)
  | nope
  deriving Inhabited

/-- what a body is run with: calls of defs, the thunk that was handed in -/
structure Ct where
  call : String → List D → List D → CR
  lcall : String → List D → List D → CR
  ask : String → (List D → CR) → List D → CR
def lamCt (c : Ct) : Ct := ⟨c.lcall, fun _ _ _ => .bad, fun _ _ _ => .bad⟩
def lend : Sl → Sl
  | .own _ => .no
  | .len _ => .no
  | s => s
/-- a lambda's end -/
def lamCR : R D → CR
  | .ok d w => .ok d false w.cs
  | .ex C fs w => .ex C fs w.cs
  | .bad => .bad

def dr (w : W) : D → D
  | .ref i => (w.cs[i]?).getD (.ref i)
  | d => d
def rdS (w : W) (i : Nat) : R D := match w.sl[i]? with
  | some (.val d) => .ok d w
  | some (.own d) => .ok d { w with sl := w.sl.set i (.val d) }
  | _ => .bad
def rdB (w : W) (i : Nat) : R D := match w.sl[i]? with
  | some (.val d) => .ok d w
  | some (.own d) => .ok d w
  | some (.len d) => .ok d w
  | _ => .bad
def opt {α : Type} (o : Option α) (w : W) : R α := match o with
  | some a => .ok a w
  | none => .bad
def lift (r : CR) (w : W) : R D := match r with
  | .ok d _ cs => .ok d { w with cs := cs }
  | .ex C fs cs => .ex C fs { w with cs := cs }
  | .bad => .bad
def liftN (r : CR) (w : W) : R D := match r with
  | .ok d _ cs => .ok d { w with cs := cs }
  | _ => .bad
def tr (d : D) (w : W) : R Bool := opt (truth (dr w d)) w
def pairs : List D → Option (List (Ky × D))
  | [] => some []
  | k :: v :: r => match keyOf k, pairs r with
    | some q, some ps => some ((q, v) :: ps)
    | _, _ => none
  | _ => none
def mkDic : List (Ky × D) → List (Ky × D) → List (Ky × D)
  | acc, [] => acc
  | acc, p :: r => mkDic (putK acc p.1 p.2) r
def rangeD (lo : Int) (n : Nat) : List D := (List.range n).map fun (k : Nat) => D.int (lo + k)
def rngOk (i : Int) : Bool := decide (-(4611686018427387904 : Int) ≤ i) && decide (i < 4611686018427387904)
def itemsOf : D → Option (List D)
  | .lst xs => some xs
  | .frz xs => some xs
  | .tup xs => some xs
  | _ => none
def setSl (w : W) (i : Nat) (s : Sl) : W := { w with sl := w.sl.set i s }
/-- nothing is raised out of a comprehension -/
def noEx {α : Type} : R α → R α
  | .ex _ _ _ => .bad
  | r => r
/-- the turns of a comprehension -/
def compL (f : D → W → R (Option D)) : List D → List D → W → R (List D)
  | [], acc, w => .ok acc w
  | x :: r, acc, w => (f x w).bind fun o w1 => match o with
    | some y => if lineOk (acc.length + 1) then compL f r (acc ++ [y]) w1 else .bad
    | none => compL f r acc w1

mutual
def evE (c : Ct) : E → W → R D
  | .nm i, w => rdS w i
  | .bor i, w => rdB w i
  | .kI i, w => .ok (.int i) w
  | .kS x, w => .ok (.str x) w
  | .kB b, w => .ok (.bl b) w
  | .kN, w => .ok .non w
  | .glo f, w => .ok (.fn f) w
  | .bin o a b, w => (evE c a w).bind fun x w1 => (evE c b w1).bind fun y w2 => opt (binop o (dr w2 x) (dr w2 y)) w2
  | .neg a, w => (evE c a w).bind fun x w1 => match x with
    | .int i => .ok (.int (-i)) w1
    | _ => .bad
  | .not a, w => (evE c a w).bind fun x w1 => (tr x w1).bind fun b w2 => .ok (.bl (!b)) w2
  | .and as, w => evA c as w
  | .or as, w => evOr c as w
  | .cmp o a b, w => (evE c a w).bind fun x w1 => (evE c b w1).bind fun y w2 => (opt (cmpop o (dr w2 x) (dr w2 y)) w2).bind fun t w3 => .ok (.bl t) w3
  | .cmp2 o p a b d, w => (evE c a w).bind fun x w1 => (evE c b w1).bind fun y w2 => (opt (cmpop o (dr w2 x) (dr w2 y)) w2).bind fun t w3 =>
      if t then (evE c d w3).bind fun z w4 => (opt (cmpop p (dr w4 y) (dr w4 z)) w4).bind fun u w5 => .ok (.bl u) w5 else .ok (.bl false) w3
  | .ife t a b, w => (evE c t w).bind fun x w1 => (tr x w1).bind fun u w2 => if u then evE c a w2 else evE c b w2
  | .call f as, w => (evEs c as w).bind fun ds w1 => lift (c.call f ds w1.cs) w1
  | .callv i fs as, w => (rdB w i).bind fun g w0 => match g with
    | .fn f => if f ∈ fs then (evEs c as w0).bind fun ds w1 => lift (c.call f ds w1.cs) w1 else .bad
    | _ => .bad
  | .ask f body, w => liftN (c.ask f (fun cs => lamCR (evE (lamCt c) body ⟨w.sl.map lend, cs⟩)) w.cs) w
  | .bu f a, w => (evE c a w).bind fun x w1 => opt (b1 f (dr w1 x)) w1
  | .bb f a b, w => (evE c a w).bind fun x w1 => (evE c b w1).bind fun y w2 => opt (b2 f (dr w2 x) (dr w2 y)) w2
  | .isi a cs, w => (evE c a w).bind fun x w1 => (opt (isInsts (dr w1 x) cs) w1).bind fun t w2 => .ok (.bl t) w2
  | .ix a b, w => (evE c a w).bind fun x w1 => (evE c b w1).bind fun y w2 => opt (itemOf (dr w2 x) y) w2
  | .slc a lo hi, w => (evE c a w).bind fun x w1 => (evO c lo w1).bind fun l w2 => (evO c hi w2).bind fun h w3 => match dr w3 x with
    | .lst xs => .ok (.lst (cut xs l h)) w3
    | .str z => if lineOk z.length then .ok (.str (cut z l h)) w3 else .bad
    | _ => .bad
  | .hole, _ => .bad
  | .tupD as, w => (evEs c as w).bind fun ds w1 => .ok (.tup ds) w1
  | .lstD as, w => (evEs c as w).bind fun ds w1 => .ok (.lst ds) w1
  | .dicD as, w => (evEs c as w).bind fun ds w1 => (opt (pairs ds) w1).bind fun ps w2 => .ok (.dic (mkDic [] ps)) w2
  | .comp i it cd el, w => (evI c it w).bind fun xs w1 => (compL (fun x w2 => noEx ((evC c cd (setSl w2 i (.val x))).bind fun t w3 =>
      if t then (evE c el w3).bind fun y w4 => .ok (some y) w4 else .ok none w3)) xs [] w1).bind fun ys w5 =>
        .ok (.lst ys) (setSl w5 i ((w.sl[i]?).getD .no))
  | .itv _, _ => .bad
  | .rng1 _, _ => .bad
  | .rng2 _ _, _ => .bad
  | .attr f a, w => (evE c a w).bind fun x w1 => match x with
    | .exc _ fs => opt (fs.lookup f) w1
    | .obj _ _ => .bad
    | _ => .bad
  | .nil, _ => .bad
  | .cons _ _, _ => .bad
  | .nope, _ => .bad
def evEs (c : Ct) : E → W → R (List D)
  | .nil, w => .ok [] w
  | .cons a b, w => (evE c a w).bind fun x w1 => (evEs c b w1).bind fun xs w2 => .ok (x :: xs) w2
  | _, _ => .bad
/-- and -/
def evA (c : Ct) : E → W → R D
  | .cons a .nil, w => evE c a w
  | .cons a (.cons b r), w => (evE c a w).bind fun x w1 => (tr x w1).bind fun t w2 => if t then evA c (.cons b r) w2 else .ok x w2
  | _, _ => .bad
/-- or -/
def evOr (c : Ct) : E → W → R D
  | .cons a .nil, w => evE c a w
  | .cons a (.cons b r), w => (evE c a w).bind fun x w1 => (tr x w1).bind fun t w2 => if t then .ok x w2 else evOr c (.cons b r) w2
  | _, _ => .bad
/-- what is iterated -/
def evI (c : Ct) : E → W → R (List D)
  | .itv a, w => (evE c a w).bind fun x w1 => opt (itemsOf x) w1
  | .rng1 a, w => (evE c a w).bind fun x w1 => match x with
    | .int i => if rngOk i then .ok (rangeD 0 i.toNat) w1 else .bad
    | _ => .bad
  | .rng2 a b, w => (evE c a w).bind fun x w1 => (evE c b w1).bind fun y w2 => match x, y with
    | .int i, .int j => if rngOk i && rngOk j then .ok (rangeD i (j - i).toNat) w2 else .bad
    | _, _ => .bad
  | _, _ => .bad
/-- a slice's part -/
def evO (c : Ct) : E → W → R (Option Int)
  | .hole, w => .ok none w
  | .cons a .nil, w => (evE c a w).bind fun x w1 => match x with
    | .int i => .ok (some i) w1
    | _ => .bad
  | _, _ => .bad
/-- a comprehension's test -/
def evC (c : Ct) : E → W → R Bool
  | .hole, w => .ok true w
  | .cons a .nil, w => (evE c a w).bind fun x w1 => tr x w1
  | _, _ => .bad
end

/-- an expression with its freshness -/
def frE (c : Ct) (e : E) (w : W) : R (D × Bool) := match e with
  | .call f as => (evEs c as w).bind fun ds w1 => match c.call f ds w1.cs with
    | .ok d fr cs => .ok (d, fr) { w1 with cs := cs }
    | .ex C fs cs => .ex C fs { w1 with cs := cs }
    | .bad => .bad
  | .lstD _ | .comp _ _ _ _ | .slc _ _ _ | .dicD _ | .bu .list _ | .bu .lvals _ | .bu .rev _ | .bin .Add _ _ => (evE c e w).bind fun d w1 => .ok (d, true) w1
  | _ => (evE c e w).bind fun d w1 => .ok (d, false) w1
/-- .. of a return: a list of the frame's own is let go -/
def frR (c : Ct) (e : E) (w : W) : R (D × Bool) := match e with
  | .nm i => match w.sl[i]? with
    | some (.own d) => .ok (d, true) { w with sl := w.sl.set i .no }
    | _ => (evE c e w).bind fun d w1 => .ok (d, false) w1
  | _ => frE c e w

/-! ### statements -/
inductive S where
  | asg (i : Nat) (e : E)
  | own (i : Nat) (e : E)
  | new (i : Nat) (e : E)
  | asgT (is : List Nat) (e : E)
  | par (i j : Nat) (a b : E)
  | setIx (i : Nat) (k e : E)
  | swap (i : Nat) (k1 k2 e1 e2 : E)
  | app (i : Nat) (e : E)
  | expr (e : E)
  | ite (c : E) (a b : S)
  | whl (c : E) (b : S)
  | for_ (is : List Nat) (it : E) (b : S)
  | ret (e : E) | retN
  | rais (C : String) (as : E)
  | try_ (b : S) (C : String) (i : Nat) (s : S)
  | brk | cnt | pass
  | nil | cons (a b : S)
  | nope
  deriving Inhabited

def isSeq : D → Bool
  | .lst _ => true
  | .dic _ => true
  | _ => false
def asgSl (d : D) (fr : Bool) : Sl := if fr && isSeq d then .own d else .val d
def setSls : List Nat → List D → W → R Flow
  | [], [], w => .ok .next w
  | i :: is, d :: ds, w => setSls is ds (setSl w i (.val d))
  | _, _, _ => .bad
/-- targets of an assignment -/
def setT (is : List Nat) (x : D) (w : W) : R Flow := match is with
  | [i] => .ok .next (setSl w i (.val x))
  | _ => match x with
    | .tup ds => setSls is ds w
    | _ => .bad
/-- slot i holds a list that may be changed -/
def isL (w : W) (i : Nat) : Bool := match w.sl[i]? with
  | some (.own (.lst _)) => true
  | some (.val (.ref j)) => (match w.cs[j]? with
    | some (.lst _) => true
    | _ => false)
  | _ => false
mutual
/-- no caught error within -/
def noX : D → Bool
  | .tup xs => noXs xs
  | .lst xs => noXs xs
  | .frz xs => noXs xs
  | .dic kvs => noXk kvs
  | .obj _ fs => noXf fs
  | .exc _ _ => false
  | .non => true
  | .bl _ => true
  | .int _ => true
  | .str _ => true
  | .ref _ => true
  | .fn _ => true
def noXs : List D → Bool
  | [] => true
  | d :: r => noX d && noXs r
def noXk : List (Ky × D) → Bool
  | [] => true
  | (_, d) :: r => noX d && noXk r
def noXf : List (String × D) → Bool
  | [] => true
  | (_, d) :: r => noX d && noXf r
end
/-- a change of the mutable thing in slot i -/
def modS (w : W) (i : Nat) (f : D → Option D) : R Flow := match w.sl[i]? with
  | some (.own d) => match f d with
    | some e => .ok .next (setSl w i (.own e))
    | none => .bad
  | some (.val (.ref j)) => match (w.cs[j]?).bind f with
    | some e => .ok .next { w with cs := w.cs.set j e }
    | none => .bad
  | _ => .bad
def appOf (d : D) : D → Option D
  | .lst xs => if lineOk (xs.length + 1) then some (.lst (xs ++ [d])) else none
  | _ => none

/-- one turn's end in a loop -/
def forL (f : D → W → R Flow) : List D → W → R Flow
  | [], w => .ok .next w
  | x :: r, w => (f x w).bind fun fl w1 => match fl with
    | .next => forL f r w1
    | .cnt => forL f r w1
    | .brk => .ok .next w1
    | .ret d b => .ok (.ret d b) w1
def whlN (c : W → R Bool) (b : W → R Flow) : Nat → W → Option (R Flow)
  | 0, _ => none
  | n + 1, w => match c w with
    | .ok false w1 => some (.ok .next w1)
    | .ok true w1 => match b w1 with
      | .ok .next w2 => whlN c b n w2
      | .ok .cnt w2 => whlN c b n w2
      | .ok .brk w2 => some (.ok .next w2)
      | .ok (.ret d fr) w2 => some (.ok (.ret d fr) w2)
      | .ex C fs w2 => some (.ex C fs w2)
      | .bad => some .bad
    | .ex C fs w1 => some (.ex C fs w1)
    | .bad => some .bad
open Classical in
noncomputable def whlR (c : W → R Bool) (b : W → R Flow) (w : W) : R Flow :=
  if h : ∃ n, (whlN c b n w).isSome = true then (whlN c b (Classical.choose h) w).getD .bad else .bad

/-- which attributes an error class keeps -/
abbrev Flds := String → Option (List String)

noncomputable def evS (fl : Flds) (c : Ct) : S → W → R Flow
  | .asg i e, w => (evE c e w).bind fun d w1 => .ok .next (setSl w1 i (.val d))
  | .own i e, w => (frE c e w).bind fun p w1 => .ok .next (setSl w1 i (asgSl p.1 p.2))
  | .new i e, w => (frE c e w).bind fun p w1 => if p.2 && isSeq p.1 then .ok .next { sl := w1.sl.set i (.val (.ref w1.cs.length)), cs := w1.cs ++ [p.1] } else .bad
  | .asgT is e, w => (evE c e w).bind fun x w1 => setT is x w1
  | .par i j a b, w => (evE c a w).bind fun x w1 => (evE c b w1).bind fun y w2 => .ok .next (setSl (setSl w2 i (.val x)) j (.val y))
  | .setIx i k e, w => (evE c e w).bind fun d w1 => (rdB w1 i).bind fun _ w1 => (evE c k w1).bind fun x w2 => modS w2 i fun o => setOf o x d
  | .swap i k1 k2 e1 e2, w => (evE c e1 w).bind fun x w1 => (evE c e2 w1).bind fun y w2 => (rdB w2 i).bind fun _ w2 => (evE c k1 w2).bind fun p w3 => (modS w3 i fun o => setOf o p x).bind fun _ w4 =>
      (rdB w4 i).bind fun _ w4 => (evE c k2 w4).bind fun q w5 => modS w5 i fun o => setOf o q y
  | .app i e, w => if isL w i then (evE c e w).bind fun d w1 => modS w1 i (appOf d) else .bad
  | .expr e, w => (evE c e w).bind fun _ w1 => .ok .next w1
  | .ite t a b, w => (evE c t w).bind fun x w1 => (tr x w1).bind fun u w2 => if u then evS fl c a w2 else evS fl c b w2
  | .whl t b, w => whlR (fun w => (evE c t w).bind fun x w1 => tr x w1) (fun w => evS fl c b w) w
  | .for_ is it b, w => (evI c it w).bind fun xs w1 => forL (fun x w2 => (setT is x w2).bind fun _ w3 => evS fl c b w3) xs w1
  | .ret e, w => (frR c e w).bind fun p w1 => .ok (.ret p.1 p.2) w1
  | .retN, w => .ok (.ret .non false) w
  | .rais C as, w => (evEs c as w).bind fun ds w1 => match fl C with
    | some fs => if fs.length = ds.length then .ex C (fs.zip ds).reverse w1 else .bad
    | none => .bad
  | .try_ b C0 i s, w => match evS fl c b w with
    | .ex C fs w1 => if (fl C).isNone then .bad else if isExc C C0 then (match evS fl c s (setSl w1 i (.val (.exc C fs))) with
        | .ok (.ret d _) w2 => if noX d && noXs w2.cs then .ok (.ret d false) ⟨w2.sl.map fun _ => .no, w2.cs⟩ else .bad
        | _ => .bad) else .ex C fs w1
    | r => r
  | .brk, w => .ok .brk w
  | .cnt, w => .ok .cnt w
  | .pass, w => .ok .next w
  | .nil, w => .ok .next w
  | .nope, _ => .bad
  | .cons a b, w => (evS fl c a w).bind fun f w1 => match f with
    | .next => evS fl c b w1
    | g => .ok g w1

/-! ### defs, levels -/
structure Df where
  np : Nat
  ns : Nat
  dfl : List D
  body : S

def scalar : D → Bool
  | .non => true
  | .bl _ => true
  | .int _ => true
  | .str _ => true
  | _ => false
mutual
def noRef : D → Bool
  | .tup xs => noRefs xs
  | .lst xs => noRefs xs
  | .ref _ => false
  | .non => true
  | .bl _ => true
  | .int _ => true
  | .str _ => true
  | _ => false
def noRefs : List D → Bool
  | [] => true
  | d :: r => noRef d && noRefs r
end
/-- a def's end: cells that were made within are dropped -/
def fin (n : Nat) (d : D) (fr : Bool) (cs : List D) : CR :=
  if cs.length = n then .ok d fr cs else if scalar d && noRefs (cs.take n) then .ok d false (cs.take n) else .bad
def ends (n : Nat) : R Flow → CR
  | .ok (.ret d fr) w => fin n d fr w.cs
  | .ok .next w => fin n .non false w.cs
  | .ex C fs w => if w.cs.length = n then .ex C fs w.cs else .bad
  | _ => .bad
noncomputable def runD (fl : Flds) (c : Ct) (d : Df) (ds cs : List D) : CR :=
  ends cs.length (evS fl c d.body ⟨ds.map Sl.val ++ List.replicate (d.ns - d.np) .no, cs⟩)
/-- arguments with the defaults behind them -/
def fillD (d : Df) (ds : List D) : Option (List D) :=
  if ds.length ≤ d.np ∧ d.np ≤ ds.length + d.dfl.length then some (ds ++ d.dfl.drop (ds.length + d.dfl.length - d.np)) else none
abbrev CallF := String → List D → List D → CR
def badF : CallF := fun _ _ _ => .bad
abbrev Tab := String → Option Df
/-- a def that asks a lambda: try: return (tag, x()) / except C0 as e: s -/
structure Ad where
  ns : Nat
  i : Nat
  tag : List Nat
  C0 : String
  s : S
def badCt : Ct := ⟨badF, badF, fun _ _ _ => .bad⟩
noncomputable def askR (fl : Flds) (a : Ad) (r : CR) : CR := match r with
  | .ok d _ cs => .ok (.tup [.str a.tag, d]) false cs
  | .ex C fs cs => if (fl C).isNone then .bad else if isExc C a.C0 then (match evS fl badCt a.s ⟨(List.replicate a.ns .no).set a.i (.val (.exc C fs)), cs⟩ with
      | .ok (.ret d _) w => if noX d && (noXs w.cs && decide (w.cs.length = cs.length)) then .ok d false w.cs else .bad
      | _ => .bad) else .bad
  | .bad => .bad
noncomputable def askOf (A : String → Option Ad) (fl : Flds) : String → (List D → CR) → List D → CR := fun f th cs => match A f with
  | some a => askR fl a (th cs)
  | none => .bad
/-- a text: its defs, the defs that ask, the error classes -/
structure Tx where
  G : Tab
  A : String → Option Ad
  fl : Flds
noncomputable def ctOf (t : Tx) (p : CallF × CallF × CallF) : Ct := ⟨p.1, p.2.2, askOf t.A t.fl⟩
noncomputable def stepF (t : Tx) (p : CallF × CallF × CallF) : CallF := fun f ds cs => match t.G f with
  | some d => (match fillD d ds with
    | some es => runD t.fl (ctOf t p) d es cs
    | none => .bad)
  | none => .bad
noncomputable def lev (t : Tx) : Nat → CallF × CallF × CallF
  | 0 => (badF, badF, badF)
  | k + 1 => (if k < 2 then badF else stepF t (lev t k), (lev t k).1, (lev t k).2.1)
noncomputable def callN (t : Tx) (k : Nat) : CallF := (lev t k).1
theorem callN_succ (t : Tx) (k : Nat) : callN t (k + 3) = stepF t (lev t (k + 2)) := by
  show (if k + 2 < 2 then badF else stepF t (lev t (k + 2))) = _
  exact if_neg (by omega)
theorem callN_low (t : Tx) : ∀ k, k < 3 → callN t k = badF
  | 0, _ => rfl
  | k + 1, h => by
    show (if k < 2 then badF else stepF t (lev t k)) = _
    exact if_pos (by omega)
theorem lev_three (t : Tx) (k : Nat) : (lev t (k + 2)).2.2 = callN t k := rfl

/-! ### while, unrolled -/
theorem whlN_mono (c : W → R Bool) (b : W → R Flow) : ∀ (n m : Nat) (w : W) (r : R Flow), whlN c b n w = some r → n ≤ m → whlN c b m w = some r
  | 0, _, _, _, h, _ => by cases h
  | n + 1, 0, _, _, _, hm => absurd hm (by omega)
  | n + 1, m + 1, w, r, h, hm => by
    unfold whlN at h ⊢
    split at h
    · exact h
    · split at h
      · exact whlN_mono c b n m _ r h (by omega)
      · exact whlN_mono c b n m _ r h (by omega)
      · exact h
      · exact h
      · exact h
      · exact h
    · exact h
    · exact h
theorem whlR_of {c : W → R Bool} {b : W → R Flow} {n : Nat} {w : W} {r : R Flow} (h : whlN c b n w = some r) : whlR c b w = r := by
  unfold whlR
  have hx : ∃ n, (whlN c b n w).isSome = true := ⟨n, by rw [h]; rfl⟩
  rw [dif_pos hx]
  have h1 := Classical.choose_spec hx
  obtain ⟨r', e⟩ := Option.isSome_iff_exists.mp h1
  rw [e]
  have a := whlN_mono c b _ (max (Classical.choose hx) n) w r' e (Nat.le_max_left _ _)
  have a2 := whlN_mono c b _ (max (Classical.choose hx) n) w r h (Nat.le_max_right _ _)
  rw [a] at a2
  exact Option.some.inj a2
/-- what a turn leads to -/
noncomputable def whlK (c : W → R Bool) (b : W → R Flow) (w : W) : R Flow := match c w with
  | .ok false w1 => .ok .next w1
  | .ok true w1 => (match b w1 with
    | .ok .next w2 => whlR c b w2
    | .ok .cnt w2 => whlR c b w2
    | .ok .brk w2 => .ok .next w2
    | .ok (.ret d fr) w2 => .ok (.ret d fr) w2
    | .ex C fs w2 => .ex C fs w2
    | .bad => .bad)
  | .ex C fs w1 => .ex C fs w1
  | .bad => .bad
theorem whlR_bad {c : W → R Bool} {b : W → R Flow} {w : W} (h : ∀ n, whlN c b n w = none) : whlR c b w = .bad := by
  unfold whlR
  rw [dif_neg]
  rintro ⟨n, hn⟩
  rw [h n] at hn
  cases hn
theorem whlR_eq (c : W → R Bool) (b : W → R Flow) (w : W) : whlR c b w = whlK c b w := by
  have step : ∀ w2, (∀ n, whlN c b (n + 1) w = whlN c b n w2) → whlR c b w = whlR c b w2 := fun w2 h => by
    by_cases hx : ∃ n r, whlN c b n w2 = some r
    · obtain ⟨n, r, e⟩ := hx
      rw [whlR_of e, whlR_of ((h n).trans e)]
    · have hn : ∀ n, whlN c b n w2 = none := fun n => by
        cases e : whlN c b n w2 with
        | none => rfl
        | some r => exact (hx ⟨n, r, e⟩).elim
      rw [whlR_bad hn]
      refine whlR_bad fun n => ?_
      cases n with
      | zero => rfl
      | succ n => rw [h n]; exact hn n
  unfold whlK
  cases hc : c w with
  | ok t w1 =>
    cases t with
    | false => exact whlR_of (n := 1) (by unfold whlN; rw [hc])
    | true =>
      dsimp only
      cases hb : b w1 with
      | ok f w2 =>
        cases f with
        | next => exact step w2 fun n => by rw [whlN, hc]; dsimp only; rw [hb]
        | cnt => exact step w2 fun n => by rw [whlN, hc]; dsimp only; rw [hb]
        | brk => exact whlR_of (n := 1) (by unfold whlN; rw [hc]; dsimp only; rw [hb])
        | ret d fr => exact whlR_of (n := 1) (by unfold whlN; rw [hc]; dsimp only; rw [hb])
      | ex C fs w2 => exact whlR_of (n := 1) (by unfold whlN; rw [hc]; dsimp only; rw [hb])
      | bad => exact whlR_of (n := 1) (by unfold whlN; rw [hc]; dsimp only; rw [hb])
  | ex C fs w1 => exact whlR_of (n := 1) (by unfold whlN; rw [hc])
  | bad => exact whlR_of (n := 1) (by unfold whlN; rw [hc])

end RX

/-! F2: what a tree says of the model's heap. -/
namespace RX
open PySem PySem.Spec PyProof.Rows
open L2 (Hp V HO VK XK WX upd Cx)

def strOf (x : List Nat) : Str := ⟨x.toArray⟩
def kyV : Ky → L2.Key
  | .inl i => .inl i
  | .inr x => .inr (strOf x)
structure Pm where
  K : PySem.W.Frag
  mg : Str → Option Value
  x0 : Option (Addr × String × Option Addr)

/-- a locked list: the script -/
def SqF (K : PySem.W.Frag) (O : Addr → Prop) (H : Hp) (a : Addr) (xs : List V) : Prop := (H a = some (.lst xs) ∧ ¬ O a) ∨ (∃ o, H a = some (.frz o (.lst xs))) ∨
  ∃ (o : Obj) (its : Array Value) (n : Nat), K.lookup a = some o ∧ o.cls = .type "list" ∧ o.dict = none ∧ o.data = .seq its n ∧ its.size ≤ sizeLine ∧ L2.Vals xs its.toList
theorem SqF.sq {K : PySem.W.Frag} {O : Addr → Prop} {H : Hp} {a : Addr} {xs : List V} (h : SqF K O H a xs) : L2.SqL K H a xs := h.elim (fun q => .inl (.inl q.1)) fun h => h.elim (fun q => .inl (.inr q)) .inr
mutual
def Rep (p : Pm) (ia : List Addr) (O : Addr → Prop) (H : Hp) : D → V → Prop
  | .non, v => v = .non
  | .bl b, v => v = .bl b
  | .int i, v => v = .int i
  | .str x, v => v = .str (strOf x)
  | .tup ds, v => ∃ a vs, v = .ref a ∧ L2.SqT p.K H a vs ∧ Reps p ia O H ds vs
  | .lst ds, v => ∃ a vs, v = .ref a ∧ H a = some (.lst vs) ∧ ¬ O a ∧ Reps p ia O H ds vs
  | .frz ds, v => ∃ a vs, v = .ref a ∧ SqF p.K O H a vs ∧ Reps p ia O H ds vs
  | .dic kvs, v => ∃ a kws, v = .ref a ∧ H a = some (.dK kws) ∧ ¬ O a ∧ RepKs p ia O H kvs kws
  | .obj C fs, v => ∃ a Ca dx fv, v = .ref a ∧ H a = some (.ins Ca dx fv) ∧ ¬ O a ∧ p.mg (Str.ofString C) = some (.ref Ca) ∧ RepFs p ia O H fs fv
  | .ref i, v => ∃ a, ia[i]? = some a ∧ v = .ref a
  | .fn f, v => ∃ a, p.mg (Str.ofString f) = some (.ref a) ∧ v = .ref a
  | .exc C fs, v => ∃ a dd, p.x0 = some (a, C, dd) ∧ v = .ref a ∧ (match dd with
    | none => fs = []
    | some dx => ∃ fv, H dx = some (.xd fv) ∧ ¬ O dx ∧ RepFs p ia O H fs fv)
def Reps (p : Pm) (ia : List Addr) (O : Addr → Prop) (H : Hp) : List D → List V → Prop
  | [], vs => vs = []
  | d :: ds, vs => ∃ v r, vs = v :: r ∧ Rep p ia O H d v ∧ Reps p ia O H ds r
def RepKs (p : Pm) (ia : List Addr) (O : Addr → Prop) (H : Hp) : List (Ky × D) → List (L2.Key × V) → Prop
  | [], vs => vs = []
  | (k, d) :: ds, vs => ∃ v r, vs = (kyV k, v) :: r ∧ Rep p ia O H d v ∧ RepKs p ia O H ds r
def RepFs (p : Pm) (ia : List Addr) (O : Addr → Prop) (H : Hp) : List (String × D) → List (Str × V) → Prop
  | [], vs => vs = []
  | (k, d) :: ds, vs => ∃ v r, vs = (Str.ofString k, v) :: r ∧ Rep p ia O H d v ∧ RepFs p ia O H ds r
end

/-- nothing stands at a but a table -/
def Nt (H : Hp) (a : Addr) : Prop := ∀ o, H a = some o → ∃ ps, o = .tbl ps
theorem Nt.none {H : Hp} {a : Addr} (h : H a = none) : Nt H a := fun o e => by rw [h] at e; cases e
theorem Nt.not {H : Hp} {a : Addr} {o : HO} (e : H a = some o) (t : ∀ ps, o ≠ .tbl ps) : ¬ Nt H a := fun z => by
  obtain ⟨ps, q⟩ := z o e
  exact t ps q
/-- what stays between two abstract heaps: all but the cells and the tables; tuples and locked things always -/
structure Le (ia : List Addr) (H H' : Hp) : Prop where
  keep : ∀ b o, H b = some o → b ∉ ia → (∀ ps, o ≠ .tbl ps) → H' b = some o
  tups : ∀ b xs, H b = some (.tup xs) → H' b = some (.tup xs)
  frzs : ∀ b o u, H b = some (.frz o u) → H' b = some (.frz o u)
  dom : ∀ b, Nt H' b → Nt H b
theorem Le.refl {ia : List Addr} {H : Hp} : Le ia H H := ⟨fun _ _ h _ _ => h, fun _ _ h => h, fun _ _ _ h => h, fun _ h => h⟩
theorem Le.trans {ia : List Addr} {H H1 H2 : Hp} (a : Le ia H H1) (b : Le ia H1 H2) : Le ia H H2 :=
  ⟨fun c o h n t => b.keep c o (a.keep c o h n t) n t, fun c xs h => b.tups c xs (a.tups c xs h), fun c o u h => b.frzs c o u (a.frzs c o u h), fun c h => a.dom c (b.dom c h)⟩
theorem Le.weak {ia ib : List Addr} {H H1 : Hp} (a : Le ia H H1) (h : ∀ b ∈ ia, b ∈ ib ∨ Nt H b) : Le ib H H1 :=
  ⟨fun c o e n t => a.keep c o e (fun z => (h c z).elim n fun q => (Nt.not e t q).elim) t, a.tups, a.frzs, a.dom⟩
theorem Le.alloc {ia : List Addr} {H : Hp} {q : Addr} {o : HO} (hq : H q = none) : Le ia H (upd H q o) := by
  have ne : ∀ b, H b ≠ none → b ≠ q := fun b h z => h (z ▸ hq)
  have ne' : ∀ b u, H b = some u → upd H q o b = H b := fun b u e => L2.upd_ne (ne b (by rw [e]; simp))
  exact ⟨fun b u e _ _ => (ne' b u e).trans e, fun b xs e => (ne' b _ e).trans e, fun b u x e => (ne' b _ e).trans e, fun b h u e => h u ((ne' b u e).trans e)⟩

section
variable {p : Pm} {ex ia ib : List Addr} {O O' : Addr → Prop} {H H' : Hp}
/-- a tree stands on -/
structure OnX (ex ia ib : List Addr) (O O' : Addr → Prop) (H H' : Hp) : Prop where
  le : Le ex H H'
  io : ∀ b ∈ ex, O b
  sub : ∀ b, O' b → O b ∨ Nt H b
  pre : ∀ (i : Nat) (a : Addr), ia[i]? = some a → ib[i]? = some a
abbrev On (ia ib : List Addr) (O O' : Addr → Prop) (H H' : Hp) : Prop := OnX ia ia ib O O' H H'
theorem OnX.lst (o : OnX ex ia ib O O' H H') {a : Addr} {u : HO} (h : H a = some u) (n : ¬ O a) (t : ∀ ps, u ≠ .tbl ps) : H' a = some u ∧ ¬ O' a :=
  ⟨o.le.keep a u h (fun z => n (o.io a z)) t, fun z => (o.sub a z).elim n fun q => Nt.not h t q⟩
theorem OnX.sqT (o : OnX ex ia ib O O' H H') {K : PySem.W.Frag} {a : Addr} {vs : List V} (h : L2.SqT K H a vs) : L2.SqT K H' a vs := by
  rcases h with (h | ⟨u, h⟩) | h
  · exact .inl (.inl (o.le.tups a vs h))
  · exact .inl (.inr ⟨u, o.le.frzs a u _ h⟩)
  · exact .inr h
mutual
theorem Rep.on (o : OnX ex ia ib O O' H H') : ∀ (d : D) (v : V), Rep p ia O H d v → Rep p ib O' H' d v
  | .non, _, h => h
  | .bl _, _, h => h
  | .int _, _, h => h
  | .str _, _, h => h
  | .tup ds, v, h => by
    unfold Rep at h ⊢
    obtain ⟨a, vs, e, q, r⟩ := h
    exact ⟨a, vs, e, o.sqT q, Reps.on o ds vs r⟩
  | .lst ds, v, h => by
    unfold Rep at h ⊢
    obtain ⟨a, vs, e, q, n, r⟩ := h
    obtain ⟨q2, n2⟩ := o.lst q n (fun _ z => by cases z)
    exact ⟨a, vs, e, q2, n2, Reps.on o ds vs r⟩
  | .frz ds, v, h => by
    unfold Rep at h ⊢
    obtain ⟨a, vs, e, q, r⟩ := h
    refine ⟨a, vs, e, ?_, Reps.on o ds vs r⟩
    rcases q with q | ⟨u, q⟩ | q
    · exact .inl (o.lst q.1 q.2 (fun _ z => by cases z))
    · exact .inr (.inl ⟨u, o.le.frzs a u _ q⟩)
    · exact .inr (.inr q)
  | .dic kvs, v, h => by
    unfold Rep at h ⊢
    obtain ⟨a, vs, e, q, n, r⟩ := h
    obtain ⟨q2, n2⟩ := o.lst q n (fun _ z => by cases z)
    exact ⟨a, vs, e, q2, n2, RepKs.on o kvs vs r⟩
  | .obj C fs, v, h => by
    unfold Rep at h ⊢
    obtain ⟨a, Ca, dx, fv, e, q, n, m, r⟩ := h
    obtain ⟨q2, n2⟩ := o.lst q n (fun _ z => by cases z)
    exact ⟨a, Ca, dx, fv, e, q2, n2, m, RepFs.on o fs fv r⟩
  | .ref i, v, h => by
    unfold Rep at h ⊢
    obtain ⟨a, e, q⟩ := h
    exact ⟨a, o.pre i a e, q⟩
  | .fn f, v, h => by
    unfold Rep at h ⊢
    exact h
  | .exc C fs, v, h => by
    unfold Rep at h ⊢
    obtain ⟨a, dd, e, q, r⟩ := h
    refine ⟨a, dd, e, q, ?_⟩
    cases dd with
    | none => exact r
    | some dx =>
      obtain ⟨fv, q1, n1, r1⟩ := r
      obtain ⟨q2, n2⟩ := o.lst q1 n1 (fun _ z => by cases z)
      exact ⟨fv, q2, n2, RepFs.on o fs fv r1⟩
theorem Reps.on (o : OnX ex ia ib O O' H H') : ∀ (ds : List D) (vs : List V), Reps p ia O H ds vs → Reps p ib O' H' ds vs
  | [], _, h => by
    unfold Reps at h ⊢
    exact h
  | d :: ds, vs, h => by
    unfold Reps at h ⊢
    obtain ⟨v, r, e, h1, h2⟩ := h
    exact ⟨v, r, e, Rep.on o d v h1, Reps.on o ds r h2⟩
theorem RepKs.on (o : OnX ex ia ib O O' H H') : ∀ (ds : List (Ky × D)) (vs : List (L2.Key × V)), RepKs p ia O H ds vs → RepKs p ib O' H' ds vs
  | [], _, h => by
    unfold RepKs at h ⊢
    exact h
  | (k, d) :: ds, vs, h => by
    unfold RepKs at h ⊢
    obtain ⟨v, r, e, h1, h2⟩ := h
    exact ⟨v, r, e, Rep.on o d v h1, RepKs.on o ds r h2⟩
theorem RepFs.on (o : OnX ex ia ib O O' H H') : ∀ (ds : List (String × D)) (vs : List (Str × V)), RepFs p ia O H ds vs → RepFs p ib O' H' ds vs
  | [], _, h => by
    unfold RepFs at h ⊢
    exact h
  | (k, d) :: ds, vs, h => by
    unfold RepFs at h ⊢
    obtain ⟨v, r, e, h1, h2⟩ := h
    exact ⟨v, r, e, Rep.on o d v h1, RepFs.on o ds r h2⟩
end
end
end RX

/-! F3: frames, what is wanted behind an evaluation. -/
namespace RX
open PySem PySem.Spec PyProof.Rows
open L2 (Hp V HO VK XK WX upd Cx)

/-- a mutable thing at a: its content -/
def Cell (p : Pm) (ia : List Addr) (O : Addr → Prop) (H : Hp) : D → Addr → Prop
  | .lst ds, a => ∃ vs, H a = some (.lst vs) ∧ Reps p ia O H ds vs
  | .dic kvs, a => ∃ kws, H a = some (.dK kws) ∧ RepKs p ia O H kvs kws
  | _, _ => False
theorem Cell.on {p : Pm} {ex ia ib : List Addr} {O O' : Addr → Prop} {H H' : Hp} (o : OnX ex ia ib O O' H H') {d : D} {a : Addr} (h : Cell p ia O H d a) (k : ∀ u, H a = some u → H' a = some u) : Cell p ib O' H' d a := by
  cases d with
  | lst ds =>
    obtain ⟨vs, e, r⟩ := h
    exact ⟨vs, k _ e, Reps.on o _ _ r⟩
  | dic kvs =>
    obtain ⟨vs, e, r⟩ := h
    exact ⟨vs, k _ e, RepKs.on o _ _ r⟩
  | _ => exact h.elim
theorem Cell.rep {p : Pm} {ia : List Addr} {O : Addr → Prop} {H : Hp} {d : D} {a : Addr} (h : Cell p ia O H d a) (n : ¬ O a) : Rep p ia O H d (.ref a) := by
  cases d with
  | lst ds =>
    obtain ⟨vs, e, r⟩ := h
    unfold Rep
    exact ⟨a, vs, rfl, e, n, r⟩
  | dic kvs =>
    obtain ⟨vs, e, r⟩ := h
    unfold Rep
    exact ⟨a, vs, rfl, e, n, r⟩
  | _ => exact h.elim
theorem Cell.some_ {p : Pm} {ia : List Addr} {O : Addr → Prop} {H : Hp} {d : D} {a : Addr} (h : Cell p ia O H d a) : ∃ u, H a = some u ∧ (∀ ps, u ≠ .tbl ps) := by
  cases d with
  | lst ds =>
    obtain ⟨vs, e, r⟩ := h
    exact ⟨_, e, fun _ z => by cases z⟩
  | dic kvs =>
    obtain ⟨vs, e, r⟩ := h
    exact ⟨_, e, fun _ z => by cases z⟩
  | _ => exact h.elim

/-- what is fixed through a frame: the entry's heap, what is mutable outside, the cells at the entry -/
structure Sf where
  p : Pm
  T : List (Addr × Str)
  H0 : Hp
  O0 : Addr → Prop
  ia0 : List Addr
  n : Nat
def isOwn (s : Option Sl) (d : D) : Prop := s = some (.own d) ∨ s = some (.len d)
/-- what is mutable now -/
def Mu (F : Sf) (ia : List Addr) (w : W) (σ : L2.St) : Addr → Prop := fun a => F.O0 a ∨ a ∈ ia ∨ ∃ (i : Nat) (d : D), isOwn (w.sl[i]?) d ∧ σ[i]? = some (some (V.ref a))

structure Fr (F : Sf) (ia : List Addr) (w : W) (σ : L2.St) (H : Hp) : Prop where
  le : Le F.ia0 F.H0 H
  tabs : LamX.Tabs F.T H
  io : ∀ a ∈ F.ia0, F.O0 a
  o0 : ∀ a, F.O0 a → ¬ Nt F.H0 a
  pre : ∀ (i : Nat) (a : Addr), F.ia0[i]? = some a → ia[i]? = some a
  new : ∀ a ∈ ia, a ∈ F.ia0 ∨ Nt F.H0 a
  ind : ia.Nodup
  ilen : ia.length = w.cs.length
  cells : ∀ (i : Nat) (a : Addr) (d : D), ia[i]? = some a → w.cs[i]? = some d → Cell F.p ia (Mu F ia w σ) H d a
  slv : ∀ (i : Nat) (d : D), w.sl[i]? = some (.val d) → ∃ v, σ[i]? = some (some v) ∧ Rep F.p ia (Mu F ia w σ) H d v
  slo : ∀ (i : Nat) (d : D), isOwn (w.sl[i]?) d → ∃ a, σ[i]? = some (some (V.ref a)) ∧ Cell F.p ia (Mu F ia w σ) H d a ∧ Nt F.H0 a ∧ a ∉ ia
  uniq : ∀ (i j : Nat) (a : Addr) (d e : D), isOwn (w.sl[i]?) d → isOwn (w.sl[j]?) e → σ[i]? = some (some (V.ref a)) → σ[j]? = some (some (V.ref a)) → i = j
  len : w.sl.length = σ.length
  cnt : σ.length = F.n

section
variable {F : Sf} {ia : List Addr} {w : W} {σ : L2.St} {H H' : Hp}
/-- every mutable thing stands in the heap -/
theorem Fr.mu (f : Fr F ia w σ H) : ∀ a, Mu F ia w σ a → ¬ Nt H a := fun a h => by
  rcases h with h | h | ⟨i, d, h, e⟩
  · exact fun z => f.o0 a h (f.le.dom a z)
  · obtain ⟨i, hi, e⟩ := List.getElem_of_mem h
    have h1 : ia[i]? = some a := by rw [List.getElem?_eq_getElem hi, e]
    have h2 : i < w.cs.length := by rw [← f.ilen]; exact hi
    obtain ⟨u, q, t⟩ := (f.cells i a _ h1 (List.getElem?_eq_getElem h2)).some_
    exact Nt.not q t
  · obtain ⟨b, e1, c, _⟩ := f.slo i d h
    rw [e] at e1
    cases e1
    obtain ⟨u, q, t⟩ := c.some_
    exact Nt.not q t
theorem Fr.freshN (f : Fr F ia w σ H) {a : Addr} (h : Nt H a) : ¬ Mu F ia w σ a := fun z => f.mu a z h
theorem Fr.fresh (f : Fr F ia w σ H) {a : Addr} (h : H a = none) : ¬ Mu F ia w σ a := f.freshN (Nt.none h)
theorem Fr.on (f : Fr F ia w σ H) (l : Le ia H H') : On ia ia (Mu F ia w σ) (Mu F ia w σ) H H' := ⟨l, fun b hb => .inr (.inl hb), fun b hb => .inl hb, fun _ _ h => h⟩
theorem Fr.ia0_sub (f : Fr F ia w σ H) : ∀ a ∈ F.ia0, a ∈ ia := fun a h => by
  obtain ⟨i, hi, e⟩ := List.getElem_of_mem h
  exact List.mem_of_getElem? (f.pre i a (by rw [List.getElem?_eq_getElem hi, e]))
/-- the heap has grown, the cells stand -/
theorem Fr.grow (f : Fr F ia w σ H) (l : Le [] H H') (t : LamX.Tabs F.T H') : Fr F ia w σ H' := by
  have l2 : Le ia H H' := l.weak fun b hb => absurd hb (by simp)
  have o := f.on l2
  have k : ∀ a d, Cell F.p ia (Mu F ia w σ) H d a → ∀ u, H a = some u → H' a = some u := fun a d c u e => by
    obtain ⟨u', e', n⟩ := c.some_
    rw [e] at e'
    cases e'
    exact l.keep a u e (by simp) n
  refine ⟨f.le.trans (l.weak fun b hb => absurd hb (by simp)), t, f.io, f.o0, f.pre, f.new, f.ind, f.ilen, fun i a d h1 h2 => ?_, fun i d h => ?_, fun i d h => ?_, f.uniq, f.len, f.cnt⟩
  · have c := f.cells i a d h1 h2
    exact c.on o (k a d c)
  · obtain ⟨v, e, r⟩ := f.slv i d h
    exact ⟨v, e, r.on o⟩
  · obtain ⟨a, e, c, n, m⟩ := f.slo i d h
    exact ⟨a, e, c.on o (k a d c), n, m⟩
/-- the tables stand on where all but mutable things stand -/
theorem tabs_le {T : List (Addr × Str)} (t : LamX.Tabs T H) (l : Le [] H H') (k : ∀ b ps, H b = some (.tbl ps) → H' b = some (.tbl ps)) : LamX.Tabs T H' := t.ext fun b o e => by
  by_cases h : ∃ ps, o = .tbl ps
  · obtain ⟨ps, rfl⟩ := h
    exact k b ps e
  · exact l.keep b o e (by simp) fun ps z => h ⟨ps, z⟩
theorem Fr.alloc (f : Fr F ia w σ H) {q : Addr} {o : HO} (hq : H q = none) : Fr F ia w σ (upd H q o) :=
  f.grow (Le.alloc hq) (f.tabs.ext fun b u e => (L2.upd_ne (L2.ne_of_none e hq)).trans e)
/-- a slot of the frame's own is frozen -/
theorem Fr.freeze (f : Fr F ia w σ H) {i : Nat} {d : D} (h : w.sl[i]? = some (.own d)) :
    Fr F ia { w with sl := w.sl.set i (.val d) } σ H ∧ (∀ a, Mu F ia { w with sl := w.sl.set i (.val d) } σ a → Mu F ia w σ a) ∧
      ∃ v, σ[i]? = some (some v) ∧ Rep F.p ia (Mu F ia { w with sl := w.sl.set i (.val d) } σ) H d v := by
  have hi : i < w.sl.length := (List.getElem?_eq_some_iff.mp h).1
  have at_ : ∀ (j : Nat) (e : D), isOwn ((w.sl.set i (.val d))[j]?) e → isOwn (w.sl[j]?) e ∧ j ≠ i := fun j e z => by
    by_cases hj : j = i
    · subst hj
      rw [List.getElem?_set_self hi] at z
      rcases z with z | z <;> cases z
    · rw [List.getElem?_set_ne (Ne.symm hj)] at z
      exact ⟨z, hj⟩
  have sub : ∀ a, Mu F ia { w with sl := w.sl.set i (.val d) } σ a → Mu F ia w σ a := fun a z => by
    rcases z with z | z | ⟨j, e, z, q⟩
    · exact .inl z
    · exact .inr (.inl z)
    · exact .inr (.inr ⟨j, e, (at_ j e z).1, q⟩)
  have o : On ia ia (Mu F ia w σ) (Mu F ia { w with sl := w.sl.set i (.val d) } σ) H H := ⟨Le.refl, fun b hb => .inr (.inl hb), fun b hb => .inl (sub b hb), fun _ _ h => h⟩
  obtain ⟨a, ea, ca, na, ma⟩ := f.slo i d (.inl h)
  have nm : ¬ Mu F ia { w with sl := w.sl.set i (.val d) } σ a := fun z => by
    rcases z with z | z | ⟨j, e, z, q⟩
    · exact f.o0 a z na
    · exact ma z
    · obtain ⟨z1, z2⟩ := at_ j e z
      exact z2 (f.uniq j i a e d z1 (.inl h) q ea)
  have rd : Rep F.p ia (Mu F ia { w with sl := w.sl.set i (.val d) } σ) H d (.ref a) := (ca.on o fun _ e => e).rep nm
  refine ⟨⟨f.le, f.tabs, f.io, f.o0, f.pre, f.new, f.ind, f.ilen, fun j b e h1 h2 => (f.cells j b e h1 h2).on o fun _ q => q, fun j e z => ?_, fun j e z => ?_, fun j l b e1 e2 z1 z2 => f.uniq j l b e1 e2 (at_ j e1 z1).1 (at_ l e2 z2).1, by simpa using f.len, f.cnt⟩, sub, ⟨_, ea, rd⟩⟩
  · by_cases hj : j = i
    · subst hj
      have z' : (w.sl.set j (.val d))[j]? = some (.val e) := z
      rw [List.getElem?_set_self hi] at z'
      cases z'
      exact ⟨_, ea, rd⟩
    · have z' : (w.sl.set i (.val d))[j]? = some (.val e) := z
      rw [List.getElem?_set_ne (Ne.symm hj)] at z'
      obtain ⟨v, q, r⟩ := f.slv j e z'
      exact ⟨v, q, r.on o⟩
  · obtain ⟨z1, z2⟩ := at_ j e z
    obtain ⟨b, q, c, n, m⟩ := f.slo j e z1
    exact ⟨b, q, c.on o fun _ q => q, n, m⟩
end

/-! ### what is wanted -/
/-- an error: its class, its attributes -/
def ExRel (p : Pm) (ia : List Addr) (O : Addr → Prop) (H : Hp) (C : String) (fs : List (String × D)) (cls : Value) (dd : Option Addr) : Prop :=
  ∃ Ca, p.mg (Str.ofString C) = some (.ref Ca) ∧ cls = .ref Ca ∧ match dd with
    | none => fs = []
    | some dx => ∃ fv, H dx = some (.xd fv) ∧ ¬ O dx ∧ RepFs p ia O H fs fv

/-- a relation between what the evaluator and the model have -/
abbrev Rl (α β : Type) := List Addr → (Addr → Prop) → Hp → α → β → Prop
def rD (p : Pm) : Rl D V := fun ia O H d v => Rep p ia O H d v
/-- .. or a mutable thing by its content -/
def RepB (p : Pm) (ia : List Addr) (O : Addr → Prop) (H : Hp) (d : D) (v : V) : Prop := Rep p ia O H d v ∨ ∃ a, v = .ref a ∧ Cell p ia O H d a
/-- .. a frame's own -/
def RepO (p : Pm) (ia : List Addr) (O : Addr → Prop) (H : Hp) (d : D) (v : V) : Prop := Rep p ia O H d v ∨ ∃ a, v = .ref a ∧ a ∉ ia ∧ Cell p ia O H d a
def rB (p : Pm) : Rl D V := fun ia O H d v => RepO p ia O H d v
theorem RepO.b {p : Pm} {ia : List Addr} {O : Addr → Prop} {H : Hp} {d : D} {v : V} (h : RepO p ia O H d v) : RepB p ia O H d v := h.elim .inl fun ⟨a, e, _, c⟩ => .inr ⟨a, e, c⟩
theorem RepO.on {p : Pm} {ia : List Addr} {O O' : Addr → Prop} {H H' : Hp} {d : D} {v : V} (h : RepO p ia O H d v) (o : On ia ia O O' H H') : RepO p ia O' H' d v := by
  rcases h with h | ⟨a, e, n, c⟩
  · exact .inl (h.on o)
  · refine .inr ⟨a, e, n, c.on o fun u hu => ?_⟩
    obtain ⟨u', hu', t⟩ := c.some_
    rw [hu] at hu'
    cases hu'
    exact o.le.keep a u hu n t
def rDs (p : Pm) : Rl (List D) (List V) := fun ia O H d v => Reps p ia O H d v
def rEq {α : Type} : Rl α α := fun _ _ _ a b => a = b

def Post (F : Sf) (Wx : WX) (σ : L2.St) (ia : List Addr) (w : W) (H : Hp) {α β : Type} (rel : Rl α β) (r : R α) (Q : β → Hp → Prop) : Prop :=
  match r with
  | .ok a w' => ∀ v H', Fr F ia w' σ H' → Le ia H H' → (∀ b, Mu F ia w' σ b → Mu F ia w σ b) → rel ia (Mu F ia w' σ) H' a v → Q v H'
  | .ex C fs w' => ∀ cls dd H', Fr F ia w' σ H' → Le ia H H' → (∀ b, Mu F ia w' σ b → Mu F ia w σ b) → ExRel F.p ia (Mu F ia w' σ) H' C fs cls dd → Wx cls dd σ H'
  | .bad => False

section
variable {F : Sf} {Wx : WX} {σ : L2.St} {ia : List Addr} {w w1 : W} {H H1 : Hp} {α β γ δ : Type} {rel : Rl α β} {rel' : Rl γ δ} {r : R α} {Q K : β → Hp → Prop} {Q' : δ → Hp → Prop} {f : α → W → R γ}
theorem Post.base (h : Post F Wx σ ia w H rel r Q) (l : Le ia H H1) (s : ∀ b, Mu F ia w1 σ b → Mu F ia w σ b) : Post F Wx σ ia w1 H1 rel r Q := by
  cases r with
  | ok a w' => exact fun v H' f1 l1 s1 r1 => h v H' f1 (l.trans l1) (fun b z => s b (s1 b z)) r1
  | ex C fs w' => exact fun v dd H' f1 l1 s1 r1 => h v dd H' f1 (l.trans l1) (fun b z => s b (s1 b z)) r1
  | bad => exact h
theorem Post.mono (h : Post F Wx σ ia w H rel r Q) (q : ∀ v H', Q v H' → K v H') : Post F Wx σ ia w H rel r K := by
  cases r with
  | ok a w' => exact fun v H' f1 l1 s1 r1 => q _ _ (h v H' f1 l1 s1 r1)
  | ex C fs w' => exact h
  | bad => exact h
theorem Post.bind (h : Post F Wx σ ia w H rel' (r.bind f) Q') (k : ∀ a w1 v H1, Fr F ia w1 σ H1 → Le ia H H1 → (∀ b, Mu F ia w1 σ b → Mu F ia w σ b) → rel ia (Mu F ia w1 σ) H1 a v → Post F Wx σ ia w1 H1 rel' (f a w1) Q' → K v H1) :
    Post F Wx σ ia w H rel r K := by
  cases r with
  | ok a w' => exact fun v H' f1 l1 s1 r1 => k a w' v H' f1 l1 s1 r1 (Post.base h l1 s1)
  | ex C fs w' => exact h
  | bad => exact h
theorem Post.here (h : Post F Wx σ ia w H rel (.ok a w) Q) (f : Fr F ia w σ H) {v : β} (r : rel ia (Mu F ia w σ) H a v) : Q v H := h v H f Le.refl (fun _ z => z) r
end

/-! ### deref -/
section
variable {F : Sf} {ia : List Addr} {w : W} {σ : L2.St} {H : Hp} {d : D} {v : V}
theorem Fr.dr (f : Fr F ia w σ H) (h : RepB F.p ia (Mu F ia w σ) H d v) : RepB F.p ia (Mu F ia w σ) H (dr w d) v := by
  cases d with
  | ref i =>
    rcases h with h | ⟨a, _, h⟩
    · have h' := h
      unfold Rep at h
      obtain ⟨a, e, rfl⟩ := h
      show RepB _ _ _ _ ((w.cs[i]?).getD (.ref i)) _
      cases q : w.cs[i]? with
      | none => exact .inl h'
      | some c => exact .inr ⟨a, rfl, f.cells i a c e q⟩
    · exact h.elim
  | _ => exact h
end
theorem RepB.lst {p : Pm} {ia : List Addr} {O : Addr → Prop} {H : Hp} {ds : List D} {v : V} (h : RepB p ia O H (.lst ds) v) : ∃ a vs, v = .ref a ∧ H a = some (.lst vs) ∧ Reps p ia O H ds vs := by
  rcases h with h | ⟨a, e, vs, h1, h2⟩
  · unfold Rep at h
    obtain ⟨a, vs, e, h1, _, h2⟩ := h
    exact ⟨a, vs, e, h1, h2⟩
  · exact ⟨a, vs, e, h1, h2⟩
theorem RepB.dic {p : Pm} {ia : List Addr} {O : Addr → Prop} {H : Hp} {ds : List (Ky × D)} {v : V} (h : RepB p ia O H (.dic ds) v) : ∃ a vs, v = .ref a ∧ H a = some (.dK vs) ∧ RepKs p ia O H ds vs := by
  rcases h with h | ⟨a, e, vs, h1, h2⟩
  · unfold Rep at h
    obtain ⟨a, vs, e, h1, _, h2⟩ := h
    exact ⟨a, vs, e, h1, h2⟩
  · exact ⟨a, vs, e, h1, h2⟩
theorem RepB.strong {p : Pm} {ia : List Addr} {O : Addr → Prop} {H : Hp} {d : D} {v : V} (h : RepB p ia O H d v) (n : ∀ xs, d ≠ .lst xs) (m : ∀ xs, d ≠ .dic xs) : Rep p ia O H d v := by
  rcases h with h | ⟨a, e, h⟩
  · exact h
  · cases d with
    | lst ds => exact absurd rfl (n ds)
    | dic ds => exact absurd rfl (m ds)
    | _ => exact h.elim
theorem Reps.length {p : Pm} {ia : List Addr} {O : Addr → Prop} {H : Hp} : ∀ {ds : List D} {vs : List V}, Reps p ia O H ds vs → vs.length = ds.length
  | [], vs, h => by
    unfold Reps at h
    rw [h]
    rfl
  | d :: ds, vs, h => by
    unfold Reps at h
    obtain ⟨v, r, e, _, h⟩ := h
    rw [e, List.length_cons, List.length_cons, Reps.length h]
theorem Reps.get {p : Pm} {ia : List Addr} {O : Addr → Prop} {H : Hp} : ∀ {ds : List D} {vs : List V} {i : Nat} {d : D}, Reps p ia O H ds vs → ds[i]? = some d → ∃ v, vs[i]? = some v ∧ Rep p ia O H d v
  | [], _, _, _, _, e => by simp at e
  | d :: ds, vs, 0, d', h, e => by
    unfold Reps at h
    obtain ⟨v, r, ev, h1, h⟩ := h
    simp at e
    subst e
    exact ⟨v, by rw [ev]; rfl, h1⟩
  | d :: ds, vs, i + 1, d', h, e => by
    unfold Reps at h
    obtain ⟨v, r, ev, h1, h⟩ := h
    obtain ⟨u, h2, h3⟩ := Reps.get (i := i) h (by simpa using e)
    exact ⟨u, by rw [ev]; simpa using h2, h3⟩
theorem Reps.append {p : Pm} {ia : List Addr} {O : Addr → Prop} {H : Hp} : ∀ {ds es : List D} {vs us : List V}, Reps p ia O H ds vs → Reps p ia O H es us → Reps p ia O H (ds ++ es) (vs ++ us)
  | [], _, vs, _, h, g => by
    unfold Reps at h
    rw [h]
    exact g
  | d :: ds, es, vs, us, h, g => by
    unfold Reps at h
    obtain ⟨v, r, ev, h1, h⟩ := h
    rw [ev, List.cons_append, List.cons_append]
    unfold Reps
    exact ⟨v, r ++ us, rfl, h1, Reps.append h g⟩
theorem Reps.set {p : Pm} {ia : List Addr} {O : Addr → Prop} {H : Hp} {d : D} {v : V} (hv : Rep p ia O H d v) : ∀ {ds : List D} {vs : List V} (i : Nat), Reps p ia O H ds vs → Reps p ia O H (ds.set i d) (vs.set i v)
  | [], vs, _, h => by
    unfold Reps at h
    rw [h]
    unfold Reps
    rfl
  | e :: ds, vs, 0, h => by
    unfold Reps at h
    obtain ⟨u, r, ev, h1, h⟩ := h
    rw [ev]
    show Reps p ia O H (d :: ds) (v :: r)
    unfold Reps
    exact ⟨v, r, rfl, hv, h⟩
  | e :: ds, vs, i + 1, h => by
    unfold Reps at h
    obtain ⟨u, r, ev, h1, h⟩ := h
    rw [ev]
    show Reps p ia O H (e :: ds.set i d) (u :: r.set i v)
    unfold Reps
    exact ⟨u, _, rfl, h1, Reps.set hv i h⟩
theorem Reps.drop {p : Pm} {ia : List Addr} {O : Addr → Prop} {H : Hp} : ∀ {ds : List D} {vs : List V} (n : Nat), Reps p ia O H ds vs → Reps p ia O H (ds.drop n) (vs.drop n)
  | _, _, 0, h => h
  | [], vs, n + 1, h => by
    unfold Reps at h
    rw [h]
    unfold Reps
    rfl
  | d :: ds, vs, n + 1, h => by
    unfold Reps at h
    obtain ⟨v, r, ev, h1, h⟩ := h
    rw [ev]
    exact Reps.drop n h
theorem Reps.take {p : Pm} {ia : List Addr} {O : Addr → Prop} {H : Hp} : ∀ {ds : List D} {vs : List V} (n : Nat), Reps p ia O H ds vs → Reps p ia O H (ds.take n) (vs.take n)
  | _, _, 0, h => by
    rw [List.take_zero, List.take_zero]
    unfold Reps
    rfl
  | [], vs, n + 1, h => by
    unfold Reps at h
    rw [h]
    unfold Reps
    rfl
  | d :: ds, vs, n + 1, h => by
    unfold Reps at h
    obtain ⟨v, r, ev, h1, h⟩ := h
    rw [ev]
    show Reps p ia O H (d :: ds.take n) (v :: r.take n)
    unfold Reps
    exact ⟨v, _, rfl, h1, Reps.take n h⟩
theorem Reps.reverse {p : Pm} {ia : List Addr} {O : Addr → Prop} {H : Hp} : ∀ {ds : List D} {vs : List V}, Reps p ia O H ds vs → Reps p ia O H ds.reverse vs.reverse
  | [], vs, h => by
    unfold Reps at h
    rw [h]
    unfold Reps
    rfl
  | d :: ds, vs, h => by
    unfold Reps at h
    obtain ⟨v, r, ev, h1, h⟩ := h
    rw [ev, List.reverse_cons, List.reverse_cons]
    refine Reps.append (Reps.reverse h) ?_
    unfold Reps
    exact ⟨v, [], rfl, h1, by unfold Reps; rfl⟩
section
variable {F : Sf} {ia : List Addr} {w w' : W} {σ σ' : L2.St} {H H' : Hp}
/-- a new thing at a, which no tree holds -/
structure FrA (F : Sf) (ia : List Addr) (w : W) (σ : L2.St) (H : Hp) (a : Addr) : Prop where
  fr : Fr F ia w σ H
  nia : a ∉ ia
  nH0 : Nt F.H0 a
  nown : ∀ (i : Nat) (d : D), isOwn (w.sl[i]?) d → σ[i]? ≠ some (some (V.ref a))
  cells : ∀ (i : Nat) (b : Addr) (d : D), ia[i]? = some b → w.cs[i]? = some d → Cell F.p ia (fun z => Mu F ia w σ z ∨ z = a) H d b
  slv : ∀ (i : Nat) (d : D), w.sl[i]? = some (.val d) → ∃ v, σ[i]? = some (some v) ∧ Rep F.p ia (fun z => Mu F ia w σ z ∨ z = a) H d v
  slo : ∀ (i : Nat) (d : D), isOwn (w.sl[i]?) d → ∃ b, σ[i]? = some (some (V.ref b)) ∧ Cell F.p ia (fun z => Mu F ia w σ z ∨ z = a) H d b
/-- from a frame in whose heap a does not stand -/
theorem Fr.toA (f : Fr F ia w σ H) (f' : Fr F ia w' σ H') (l : Le ia H H') {a : Addr} (ha : Nt H a) (e : w'.sl = w.sl)
    (ck : ∀ (i : Nat) (b : Addr) (d : D), ia[i]? = some b → w'.cs[i]? = some d → Cell F.p ia (fun z => Mu F ia w σ z ∨ z = a) H' d b) : FrA F ia w' σ H' a := by
  have em : ∀ z, Mu F ia w' σ z ↔ Mu F ia w σ z := fun z => by
    unfold Mu
    rw [e]
  have eo : (fun z => Mu F ia w' σ z ∨ z = a) = fun z => Mu F ia w σ z ∨ z = a := by
    funext z
    rw [propext (em z)]
  have on : On ia ia (Mu F ia w σ) (fun z => Mu F ia w σ z ∨ z = a) H H' := ⟨l, fun b hb => .inr (.inl hb), fun b hb => hb.elim .inl fun q => .inr (by rw [q]; exact ha), fun _ _ h => h⟩
  have nm : ¬ Mu F ia w σ a := f.freshN ha
  refine ⟨f', fun z => nm (.inr (.inl z)), f.le.dom a ha, fun i d h q => ?_, fun i b d h1 h2 => by rw [eo]; exact ck i b d h1 h2, fun i d h => ?_, fun i d h => ?_⟩
  · rw [e] at h
    exact nm (.inr (.inr ⟨i, d, h, q⟩))
  · rw [e] at h
    obtain ⟨v, q, r⟩ := f.slv i d h
    exact ⟨v, q, by rw [eo]; exact Rep.on on d v r⟩
  · rw [e] at h
    obtain ⟨b, q, c, n, m⟩ := f.slo i d h
    refine ⟨b, q, ?_⟩
    rw [eo]
    refine c.on on fun u hu => ?_
    obtain ⟨u', hu', t⟩ := c.some_
    rw [hu] at hu'
    cases hu'
    exact l.keep b u hu m t
/-- .. laid just now -/
theorem Fr.allocA (f : Fr F ia w σ H) {q : Addr} {o : HO} (hq : H q = none) : FrA F ia w σ (upd H q o) q := by
  have on : On ia ia (Mu F ia w σ) (fun z => Mu F ia w σ z ∨ z = q) H (upd H q o) := ⟨Le.alloc hq, fun b hb => .inr (.inl hb), fun b hb => hb.elim .inl fun e => .inr (by rw [e]; exact Nt.none hq), fun _ _ h => h⟩
  refine f.toA (f.alloc hq) (Le.alloc hq) (Nt.none hq) rfl fun i b d h1 h2 => ?_
  have c := f.cells i b d h1 h2
  refine c.on on fun u hu => ?_
  rw [L2.upd_ne (L2.ne_of_none hu hq)]
  exact hu
/-- a value that is a new list (dict) of nobody's -/
def NewA (F : Sf) (ia : List Addr) (w : W) (σ : L2.St) (H H' : Hp) (d : D) (v : V) : Prop := ∃ a, v = .ref a ∧ Nt H a ∧ FrA F ia w σ H' a ∧ Cell F.p ia (fun z => Mu F ia w σ z ∨ z = a) H' d a
end
end RX

/-! F4: operations by values. -/
namespace RX
open PySem PySem.Spec PyProof.Rows
open L2 (Hp V HO VK XK WX upd Cx OpR R2)

theorem line_of {n : Nat} (h : lineOk n = true) : n ≤ sizeLine := by
  rw [sizeLine_eq]
  exact of_decide_eq_true h
theorem strOf_length (x : List Nat) : (strOf x).length = x.length := by
  unfold strOf
  show (x.toArray).size = _
  simp
theorem strOf_inj {x y : List Nat} (h : strOf x = strOf y) : x = y := by
  unfold strOf at h
  have := congrArg (fun s : Str => s.cps.toList) h
  simpa using this
theorem strOf_append (x y : List Nat) : strOf x ++ strOf y = strOf (x ++ y) := by
  show (⟨x.toArray ++ y.toArray⟩ : Str) = _
  unfold strOf
  simp
/-- what stands behind an operation that makes nothing, or a new thing -/
def Then (F : Sf) (σ : L2.St) (ia : List Addr) (w : W) (H : Hp) (z : D) (Q : VK) : Prop :=
  ∀ v H', Fr F ia w σ H' → Le ia H H' → Rep F.p ia (Mu F ia w σ) H' z v → Q v H'
section
variable {F : Sf} {σ : L2.St} {ia : List Addr} {w : W} {H : Hp} {Q : VK}
theorem Then.int (t : Then F σ ia w H (.int i) Q) (f : Fr F ia w σ H) : Q (.int i) H := t _ H f Le.refl (by unfold Rep; rfl)
theorem Then.str (t : Then F σ ia w H (.str x) Q) (f : Fr F ia w σ H) : Q (.str (strOf x)) H := t _ H f Le.refl (by unfold Rep; rfl)
theorem Then.bl (t : Then F σ ia w H (.bl x) Q) (f : Fr F ia w σ H) : Q (.bl x) H := t _ H f Le.refl (by unfold Rep; rfl)
theorem Fr.onA (f : Fr F ia w σ H) {q : Addr} {o : HO} (hq : H q = none) : On ia ia (Mu F ia w σ) (Mu F ia w σ) H (upd H q o) := f.on (Le.alloc hq)
theorem Then.lst {ds : List D} {vs : List V} (t : Then F σ ia w H (.lst ds) Q) (f : Fr F ia w σ H) (r : Reps F.p ia (Mu F ia w σ) H ds vs) : ∀ q, H q = none → Q (.ref q) (upd H q (.lst vs)) := fun q hq => by
  refine t _ _ (f.alloc hq) (Le.alloc hq) ?_
  unfold Rep
  exact ⟨q, vs, rfl, L2.upd_same, fun z => f.fresh hq z, r.on (f.onA hq)⟩
theorem Then.tup {ds : List D} {vs : List V} (t : Then F σ ia w H (.tup ds) Q) (f : Fr F ia w σ H) (r : Reps F.p ia (Mu F ia w σ) H ds vs) : ∀ q, H q = none → Q (.ref q) (upd H q (.tup vs)) := fun q hq => by
  refine t _ _ (f.alloc hq) (Le.alloc hq) ?_
  unfold Rep
  exact ⟨q, vs, rfl, .inl (.inl L2.upd_same), r.on (f.onA hq)⟩
theorem Then.dic {ds : List (Ky × D)} {vs : List (L2.Key × V)} (t : Then F σ ia w H (.dic ds) Q) (f : Fr F ia w σ H) (r : RepKs F.p ia (Mu F ia w σ) H ds vs) : ∀ q, H q = none → Q (.ref q) (upd H q (.dK vs)) := fun q hq => by
  refine t _ _ (f.alloc hq) (Le.alloc hq) ?_
  unfold Rep
  exact ⟨q, vs, rfl, L2.upd_same, fun z => f.fresh hq z, r.on (f.onA hq)⟩
end

/-- .. a new list being told as such -/
def ThenN (F : Sf) (σ : L2.St) (ia : List Addr) (w : W) (H : Hp) (z : D) (Q : VK) : Prop :=
  ∀ v H', Fr F ia w σ H' → Le ia H H' → Rep F.p ia (Mu F ia w σ) H' z v → (isSeq z = true → NewA F ia w σ H H' z v) → Q v H'
section
variable {F : Sf} {σ : L2.St} {ia : List Addr} {w : W} {H : Hp} {Q : VK}
theorem Then.n {z : D} (t : Then F σ ia w H z Q) : ThenN F σ ia w H z Q := fun v H' f l r _ => t v H' f l r
theorem ThenN.int (t : ThenN F σ ia w H (.int i) Q) (f : Fr F ia w σ H) : Q (.int i) H := t _ H f Le.refl (by unfold Rep; rfl) (fun z => by cases z)
theorem ThenN.str (t : ThenN F σ ia w H (.str x) Q) (f : Fr F ia w σ H) : Q (.str (strOf x)) H := t _ H f Le.refl (by unfold Rep; rfl) (fun z => by cases z)
theorem ThenN.bl (t : ThenN F σ ia w H (.bl x) Q) (f : Fr F ia w σ H) : Q (.bl x) H := t _ H f Le.refl (by unfold Rep; rfl) (fun z => by cases z)
theorem Fr.onN (f : Fr F ia w σ H) {q : Addr} {o : HO} (hq : H q = none) : On ia ia (Mu F ia w σ) (fun z => Mu F ia w σ z ∨ z = q) H (upd H q o) :=
  ⟨Le.alloc hq, fun b hb => .inr (.inl hb), fun b hb => hb.elim .inl fun e => .inr (by rw [e]; exact Nt.none hq), fun _ _ h => h⟩
theorem ThenN.lst {ds : List D} {vs : List V} (t : ThenN F σ ia w H (.lst ds) Q) (f : Fr F ia w σ H) (r : Reps F.p ia (Mu F ia w σ) H ds vs) : ∀ q, H q = none → Q (.ref q) (upd H q (.lst vs)) := fun q hq => by
  refine t _ _ (f.alloc hq) (Le.alloc hq) ?_ fun _ => ⟨q, rfl, Nt.none hq, f.allocA hq, vs, L2.upd_same, r.on (f.onN hq)⟩
  unfold Rep
  exact ⟨q, vs, rfl, L2.upd_same, fun z => f.fresh hq z, r.on (f.onA hq)⟩
theorem ThenN.tup {ds : List D} {vs : List V} (t : ThenN F σ ia w H (.tup ds) Q) (f : Fr F ia w σ H) (r : Reps F.p ia (Mu F ia w σ) H ds vs) : ∀ q, H q = none → Q (.ref q) (upd H q (.tup vs)) := fun q hq => by
  refine t _ _ (f.alloc hq) (Le.alloc hq) ?_ fun z => by cases z
  unfold Rep
  exact ⟨q, vs, rfl, .inl (.inl L2.upd_same), r.on (f.onA hq)⟩
theorem ThenN.dic {ds : List (Ky × D)} {vs : List (L2.Key × V)} (t : ThenN F σ ia w H (.dic ds) Q) (f : Fr F ia w σ H) (r : RepKs F.p ia (Mu F ia w σ) H ds vs) : ∀ q, H q = none → Q (.ref q) (upd H q (.dK vs)) := fun q hq => by
  refine t _ _ (f.alloc hq) (Le.alloc hq) ?_ fun _ => ⟨q, rfl, Nt.none hq, f.allocA hq, vs, L2.upd_same, r.on (f.onN hq)⟩
  unfold Rep
  exact ⟨q, vs, rfl, L2.upd_same, fun z => f.fresh hq z, r.on (f.onA hq)⟩
theorem ThenN.same {d : D} {v : V} (t : ThenN F σ ia w H d Q) (f : Fr F ia w σ H) (n : isSeq d = false) (r : Rep F.p ia (Mu F ia w σ) H d v) : Q v H := t v H f Le.refl r (fun z => by rw [n] at z; cases z)
end
/-! ### values by their trees -/
section
variable {p : Pm} {ia : List Addr} {O : Addr → Prop} {H : Hp} {v : V}
theorem RepB.int_ {i : Int} (h : RepB p ia O H (.int i) v) : v = .int i := by
  have h2 := h.strong (fun _ z => by cases z) (fun _ z => by cases z)
  unfold Rep at h2
  exact h2
theorem RepB.str_ {x : List Nat} (h : RepB p ia O H (.str x) v) : v = .str (strOf x) := by
  have h2 := h.strong (fun _ z => by cases z) (fun _ z => by cases z)
  unfold Rep at h2
  exact h2
theorem RepB.bl_ {b : Bool} (h : RepB p ia O H (.bl b) v) : v = .bl b := by
  have h2 := h.strong (fun _ z => by cases z) (fun _ z => by cases z)
  unfold Rep at h2
  exact h2
theorem RepB.non_ (h : RepB p ia O H .non v) : v = .non := by
  have h2 := h.strong (fun _ z => by cases z) (fun _ z => by cases z)
  unfold Rep at h2
  exact h2
theorem RepB.tup_ {ds : List D} (h : RepB p ia O H (.tup ds) v) : ∃ a vs, v = .ref a ∧ L2.SqT p.K H a vs ∧ Reps p ia O H ds vs := by
  have h2 := h.strong (fun _ z => by cases z) (fun _ z => by cases z)
  unfold Rep at h2
  exact h2
theorem RepB.frz_ {ds : List D} (h : RepB p ia O H (.frz ds) v) : ∃ a vs, v = .ref a ∧ SqF p.K O H a vs ∧ Reps p ia O H ds vs := by
  have h2 := h.strong (fun _ z => by cases z) (fun _ z => by cases z)
  unfold Rep at h2
  exact h2
theorem RepB.ne_non {d : D} (h : RepB p ia O H d v) (n : d ≠ .non) : v ≠ .non := by
  rcases h with h | ⟨a, e, _⟩
  · cases d with
    | non => exact absurd rfl n
    | bl b =>
      unfold Rep at h
      rw [h]
      simp
    | int b =>
      unfold Rep at h
      rw [h]
      simp
    | str b =>
      unfold Rep at h
      rw [h]
      simp
    | tup b =>
      unfold Rep at h
      obtain ⟨a, vs, e, _⟩ := h
      rw [e]
      simp
    | lst b =>
      unfold Rep at h
      obtain ⟨a, vs, e, _⟩ := h
      rw [e]
      simp
    | frz b =>
      unfold Rep at h
      obtain ⟨a, vs, e, _⟩ := h
      rw [e]
      simp
    | dic b =>
      unfold Rep at h
      obtain ⟨a, vs, e, _⟩ := h
      rw [e]
      simp
    | obj b c =>
      unfold Rep at h
      obtain ⟨a, _, _, vs, e, _⟩ := h
      rw [e]
      simp
    | ref b =>
      unfold Rep at h
      obtain ⟨a, _, e⟩ := h
      rw [e]
      simp
    | fn b =>
      unfold Rep at h
      obtain ⟨a, _, e⟩ := h
      rw [e]
      simp
    | exc b c =>
      unfold Rep at h
      obtain ⟨a, _, _, e, _⟩ := h
      rw [e]
      simp
  · rw [e]
    simp
end

/-! ### binary operators -/
def binR (X : Cx) : Operator → R2
  | .Add => fun x y H Q => L2.rI0 (fun i j => .int (i + j)) x y H Q ∨ (∃ i j, x = .str i ∧ y = .str j ∧ i.length + j.length ≤ sizeLine ∧ Q (.str (i ++ j)) H) ∨ L2.rCat x y H Q
  | .Sub => L2.rI0 fun i j => .int (i - j)
  | .Mult => L2.rI L2.CMulX fun i j => .int (i * j)
  | .FloorDiv => L2.rI (fun i j => j ≠ 0 ∧ Builtin.divisionGoesByPylong i j = false) fun i j => .int (i.fdiv j)
  | .Mod => L2.rI (fun _ j => j ≠ 0) fun i j => .int (i.fmod j)
  | .Pow => L2.rI L2.CPow fun i j => .int (i ^ j.toNat)
  | _ => fun _ _ _ _ => False
theorem binR_ok {X : Cx} : ∀ o : Operator, OpR X (binaryOp o) (binR X o)
  | .Add => L2.op_add.or (L2.op_add_str.or L2.op_cat)
  | .Sub => L2.op_sub
  | .Mult => L2.op_mulX
  | .FloorDiv => L2.opI fun _ _ _ _ _ _ _ hc q => floordiv_int hc.1 q (.inl hc.2)
  | .Mod => L2.op_modN
  | .Pow => L2.op_pow
  | .MatMult | .Div | .LShift | .RShift | .BitOr | .BitXor | .BitAnd => fun _ _ _ _ _ _ _ _ _ _ _ _ h => h.elim
section
variable {X : Cx} {F : Sf} {σ : L2.St} {ia : List Addr} {w : W} {H : Hp} {Q : VK} {x y : V}
theorem binR_of {o : Operator} {d e z : D} (h : binop o d e = some z) (f : Fr F ia w σ H) (rx : RepB F.p ia (Mu F ia w σ) H d x) (ry : RepB F.p ia (Mu F ia w σ) H e y) (t : ThenN F σ ia w H z Q) : binR X o x y H Q := by
  unfold binop at h
  split at h
  · cases h
    exact .inl ⟨_, _, rx.int_, ry.int_, t.int f⟩
  · split at h
    · rename_i hl
      cases h
      refine .inr (.inl ⟨_, _, rx.str_, ry.str_, ?_, ?_⟩)
      · rw [strOf_length, strOf_length]
        exact line_of hl
      · rw [strOf_append]
        exact t.str f
    · cases h
  · split at h
    · rename_i hl
      cases h
      obtain ⟨a, vs, rfl, h1, h2⟩ := rx.lst
      obtain ⟨b, us, rfl, h3, h4⟩ := ry.lst
      refine .inr (.inr ⟨a, b, vs, us, rfl, rfl, h1, h3, ?_, t.lst f (h2.append h4)⟩)
      rw [h2.length, h4.length]
      exact line_of hl
    · cases h
  · cases h
    exact ⟨_, _, rx.int_, ry.int_, t.int f⟩
  · split at h
    · rename_i hm
      cases h
      refine ⟨_, _, rx.int_, ry.int_, ?_, t.int f⟩
      have := of_decide_eq_true hm
      unfold L2.CMulX
      omega
    · cases h
  · split at h
    · rename_i hm
      cases h
      unfold divOk at hm
      obtain ⟨h1, h2⟩ := Bool.and_eq_true_iff.mp hm
      exact ⟨_, _, rx.int_, ry.int_, ⟨of_decide_eq_true h1, by simpa using h2⟩, t.int f⟩
    · cases h
  · split at h
    · rename_i hm
      cases h
      exact ⟨_, _, rx.int_, ry.int_, hm, t.int f⟩
    · cases h
  · split at h
    · rename_i hm
      cases h
      unfold powOk at hm
      simp only [Bool.and_eq_true, decide_eq_true_eq] at hm
      exact ⟨_, _, rx.int_, ry.int_, ⟨hm.1.1, hm.1.2, by have := hm.2; omega⟩, t.int f⟩
    · cases h
  · cases h
end

/-! ### comparisons -/
mutual
theorem dp_of {p : Pm} {ia : List Addr} {O : Addr → Prop} {H : Hp} : ∀ (d : D) (v : V) (q : PyData), Rep p ia O H d v → toPy d = some q → L2.Dp p.K H v q
  | .non, v, q, h, e => by
    unfold Rep at h
    unfold toPy at e
    cases e
    rw [h]
    exact .non
  | .bl b, v, q, h, e => by
    unfold Rep at h
    unfold toPy at e
    cases e
    rw [h]
    exact .bl b
  | .int b, v, q, h, e => by
    unfold Rep at h
    unfold toPy at e
    cases e
    rw [h]
    exact .int b
  | .str b, v, q, h, e => by
    unfold Rep at h
    unfold toPy at e
    cases e
    rw [h]
    exact .str _
  | .tup b, v, q, h, e => by
    unfold Rep at h
    unfold toPy at e
    obtain ⟨a, vs, rfl, h1, h2⟩ := h
    cases e1 : toPys b with
    | none =>
      rw [e1] at e
      cases e
    | some qs =>
      rw [e1] at e
      cases e
      exact .tup h1 (dps_of b vs qs h2 e1)
  | .lst b, v, q, h, e => by
    unfold Rep at h
    unfold toPy at e
    obtain ⟨a, vs, rfl, h1, _, h2⟩ := h
    cases e1 : toPys b with
    | none =>
      rw [e1] at e
      cases e
    | some qs =>
      rw [e1] at e
      cases e
      exact .lst (L2.SqL.of h1) (dps_of b vs qs h2 e1)
  | .frz b, v, q, h, e => by
    unfold toPy at e
    cases e
  | .dic b, v, q, h, e => by
    unfold toPy at e
    cases e
  | .obj b c, v, q, h, e => by
    unfold toPy at e
    cases e
  | .ref b, v, q, h, e => by
    unfold toPy at e
    cases e
  | .fn b, v, q, h, e => by
    unfold toPy at e
    cases e
  | .exc b c, v, q, h, e => by
    unfold toPy at e
    cases e
theorem dps_of {p : Pm} {ia : List Addr} {O : Addr → Prop} {H : Hp} : ∀ (ds : List D) (vs : List V) (qs : List PyData), Reps p ia O H ds vs → toPys ds = some qs → L2.DpAll p.K H vs qs
  | [], vs, qs, h, e => by
    unfold Reps at h
    unfold toPys at e
    cases e
    rw [h]
    exact .nil
  | d :: ds, vs, qs, h, e => by
    unfold Reps at h
    unfold toPys at e
    obtain ⟨v, r, rfl, h1, h2⟩ := h
    split at e
    · rename_i q q' e1 e2
      cases e
      exact .cons (dp_of d v q h1 e1) (dps_of ds r q' h2 e2)
    · cases e
end
theorem dp_ofB {p : Pm} {ia : List Addr} {O : Addr → Prop} {H : Hp} {d : D} {v : V} {q : PyData} (h : RepB p ia O H d v) (e : toPy d = some q) : L2.Dp p.K H v q := by
  rcases h with h | ⟨a, rfl, h⟩
  · exact dp_of d v q h e
  · cases d with
    | lst ds =>
      obtain ⟨vs, h1, h2⟩ := h
      unfold toPy at e
      cases e1 : toPys ds with
      | none =>
        rw [e1] at e
        cases e
      | some qs =>
        rw [e1] at e
        cases e
        exact .lst (L2.SqL.of h1) (dps_of ds vs qs h2 e1)
    | dic ds =>
      unfold toPy at e
      cases e
    | _ => exact h.elim

def eqR (X : Cx) : R2 := fun x y H Q => L2.rEq x y H Q ∨ L2.rEqD X.K x y H Q
def neR (X : Cx) : R2 := fun x y H Q => L2.rNe x y H Q ∨ L2.rNeD X.K x y H Q
def cmpR (X : Cx) : CmpOp → R2
  | .Lt => L2.rI0 fun i j => .bl (decide (i < j))
  | .LtE => L2.rI0 fun i j => .bl (decide (i ≤ j))
  | .Gt => L2.rI0 fun i j => .bl (decide (j < i))
  | .GtE => L2.rI0 fun i j => .bl (decide (j ≤ i))
  | .Eq => eqR X
  | .NotEq => neR X
  | .Is => fun x y H Q => (y = .non ∧ Q (.bl (decide (x = .non))) H) ∨ L2.rIsB x y H Q
  | .IsNot => fun x y H Q => (y = .non ∧ Q (.bl (!decide (x = .non))) H) ∨ L2.rNotB x y H Q
  | _ => fun _ _ _ _ => False
theorem cmpR_ok {X : Cx} (hu : X.A.units + 64 < cLine) : ∀ o : CmpOp, OpR X (compareOp o) (cmpR X o)
  | .Lt => L2.op_lt
  | .LtE => L2.op_le
  | .Gt => L2.op_gt
  | .GtE => L2.op_ge
  | .Eq => L2.op_eq.or (L2.op_eqD hu)
  | .NotEq => L2.op_ne.or (L2.op_neD hu)
  | .Is => L2.op_isN.or L2.op_isBl
  | .IsNot => L2.op_notN.or L2.op_notBl
  | .In | .NotIn => fun _ _ _ _ _ _ _ _ _ _ _ _ h => h.elim
section
variable {X : Cx} {F : Sf} {σ : L2.St} {ia : List Addr} {w : W} {H : Hp} {Q : VK} {x y : V}
theorem eq_of {d e : D} {z : Bool} (hK : X.K = F.p.K) (h : eqOp d e = some z) (rx : RepB F.p ia (Mu F ia w σ) H d x) (ry : RepB F.p ia (Mu F ia w σ) H e y) :
    (L2.scal x y = true ∧ decide (x = y) = z) ∨ ∃ a b, L2.Dp X.K H x a ∧ L2.Dp X.K H y b ∧ SeqAt.shaped a = true ∧ SeqAt.shaped b = true ∧ PyData.eqv a b = z := by
  unfold eqOp at h
  split at h
  · cases h
    rw [rx.int_, ry.int_]
    exact .inl ⟨rfl, by simp⟩
  · cases h
    rw [rx.str_, ry.str_]
    refine .inl ⟨rfl, ?_⟩
    rw [decide_eq_decide]
    exact ⟨fun q => strOf_inj (V.str.inj q), fun q => by rw [q]⟩
  · cases h
    rw [rx.bl_, ry.bl_]
    exact .inl ⟨rfl, by simp⟩
  · unfold deepEq at h
    split at h
    · rename_i p q e1 e2
      split at h
      · rename_i hs
        cases h
        obtain ⟨s1, s2⟩ := Bool.and_eq_true_iff.mp hs
        rw [hK]
        exact .inr ⟨p, q, dp_ofB rx e1, dp_ofB ry e2, s1, s2, rfl⟩
      · cases h
    · cases h
theorem cmpR_of {o : CmpOp} {d e : D} {z : Bool} (hK : X.K = F.p.K) (h : cmpop o d e = some z) (f : Fr F ia w σ H) (rx : RepB F.p ia (Mu F ia w σ) H d x) (ry : RepB F.p ia (Mu F ia w σ) H e y) (t : Q (.bl z) H) : cmpR X o x y H Q := by
  unfold cmpop at h
  split at h
  · cases h
    exact ⟨_, _, rx.int_, ry.int_, t⟩
  · cases h
    exact ⟨_, _, rx.int_, ry.int_, t⟩
  · cases h
    exact ⟨_, _, rx.int_, ry.int_, t⟩
  · cases h
    exact ⟨_, _, rx.int_, ry.int_, t⟩
  · rcases eq_of (X := X) hK h rx ry with ⟨h1, h2⟩ | ⟨a, b, h1, h2, h3, h4, h5⟩
    · exact .inl ⟨h1, by rw [h2]; exact t⟩
    · exact .inr ⟨a, b, h1, h2, h3, h4, by rw [h5]; exact t⟩
  · cases h0 : eqOp d e with
    | none =>
      rw [h0] at h
      cases h
    | some z0 =>
      rw [h0] at h
      cases h
      rcases eq_of (X := X) hK h0 rx ry with ⟨h1, h2⟩ | ⟨a, b, h1, h2, h3, h4, h5⟩
      · exact .inl ⟨h1, by rw [h2]; exact t⟩
      · exact .inr ⟨a, b, h1, h2, h3, h4, by rw [h5]; exact t⟩
  · cases h
    exact .inl ⟨ry.non_, by rw [rx.non_]; simpa using t⟩
  · cases h
    exact .inl ⟨ry.non_, by rw [decide_eq_false (rx.ne_non (by simp))]; exact t⟩
  · cases h
    exact .inr ⟨_, _, rx.bl_, ry.bl_, t⟩
  · cases h
  · rename_i hn _ _ _
    cases h
    exact .inl ⟨ry.non_, by rw [decide_eq_false (rx.ne_non (by assumption))]; exact t⟩
  · cases h
  · cases h
    exact .inl ⟨ry.non_, by rw [rx.non_]; simpa using t⟩
  · cases h
    exact .inl ⟨ry.non_, by rw [decide_eq_false (rx.ne_non (by simp))]; exact t⟩
  · cases h
    exact .inr ⟨_, _, rx.bl_, ry.bl_, t⟩
  · cases h
  · rename_i hn _ _ _
    cases h
    exact .inl ⟨ry.non_, by rw [decide_eq_false (rx.ne_non (by assumption))]; exact t⟩
  · cases h
  · cases h
end

/-! ### truth -/
theorem truV_of {p : Pm} {ia : List Addr} {O : Addr → Prop} {H : Hp} {d : D} {v : V} {b : Bool} (h : truth d = some b) (r : RepB p ia O H d v) : L2.TruV p.K v H b := by
  unfold truth at h
  split at h
  · cases h
    rw [r.non_]
    exact rfl
  · cases h
    rw [r.bl_]
    exact rfl
  · cases h
    rw [r.int_]
    exact rfl
  · split at h
    · rename_i x hl
      cases h
      rw [r.str_]
      refine ⟨by rw [strOf_length]; exact line_of hl, ?_⟩
      rw [strOf_length]
      cases x with
      | nil => rfl
      | cons a l =>
        show true = (((a :: l).length : Int) != 0)
        symm
        simp only [bne_iff_ne, ne_eq, List.length_cons]
        omega
    · cases h
  · rename_i xs
    cases h
    obtain ⟨a, vs, rfl, h1, h2⟩ := r.tup_
    refine .inr (.inl ⟨vs, h1, ?_⟩)
    have := h2.length
    cases xs <;> cases vs <;> simp at this ⊢
  · rename_i xs
    cases h
    obtain ⟨a, vs, rfl, h1, h2⟩ := r.lst
    refine .inl ⟨vs, L2.SqL.of h1, ?_⟩
    have := h2.length
    cases xs <;> cases vs <;> simp at this ⊢
  · rename_i xs
    cases h
    obtain ⟨a, vs, rfl, h1, h2⟩ := r.dic
    refine .inr (.inr ⟨vs, h1, ?_⟩)
    cases xs with
    | nil =>
      unfold RepKs at h2
      rw [h2]
      rfl
    | cons k l =>
      obtain ⟨k1, k2⟩ := k
      unfold RepKs at h2
      obtain ⟨v, rr, e, _⟩ := h2
      rw [e]
      rfl
  · cases h
end RX

/-! F5: contexts; expressions are sound. -/
namespace RX
open PySem PySem.Spec PyProof.Rows
open L2 (Hp V HO VK XK WX upd Cx OpR R2 PE PT PA TE TA TT Gl Vis Inv EP CallR)

/-! ### calls -/
def CellsOk (p : Pm) (ia : List Addr) (O : Addr → Prop) (H : Hp) (cs : List D) : Prop :=
  ia.length = cs.length ∧ ia.Nodup ∧ ∀ (i : Nat) (a : Addr) (d : D), ia[i]? = some a → cs[i]? = some d → Cell p ia O H d a
/-- a new list that nobody else holds -/
def New (p : Pm) (ia : List Addr) (O : Addr → Prop) (H H' : Hp) (d : D) (v : V) (cs : List D) : Prop := ∃ a, v = .ref a ∧ Nt H a ∧ Cell p ia (fun b => O b ∨ b = a) H' d a ∧ CellsOk p ia (fun b => O b ∨ b = a) H' cs
def PostC (p : Pm) (T : List (Addr × Str)) (ia : List Addr) (O : Addr → Prop) (H : Hp) (r : CR) (Q : VK) (E : XK) : Prop :=
  match r with
  | .ok d fr cs => ∀ v H', Le ia H H' → LamX.Tabs T H' → CellsOk p ia O H' cs → Rep p ia O H' d v → (fr = true → isSeq d = true → New p ia O H H' d v cs) → Q v H'
  | .ex C fs cs => ∀ cls dd H', Le ia H H' → LamX.Tabs T H' → CellsOk p ia O H' cs → ExRel p ia O H' C fs cls dd → E cls dd H'
  | .bad => False
def PreC (p : Pm) (T : List (Addr × Str)) (vs : List V) (ds cs : List D) (H : Hp) (r : CR) (Q : VK) (E : XK) : Prop :=
  ∃ ia O, (∀ a ∈ ia, O a) ∧ (∀ a, O a → ¬ Nt H a) ∧ LamX.Tabs T H ∧ CellsOk p ia O H cs ∧ Reps p ia O H ds vs ∧ PostC p T ia O H r Q E
def CallOk (X : Cx) (p : Pm) (T : List (Addr × Str)) (cf : List D → List D → CR) (f : String) (n : Nat) : Prop :=
  ∃ a fd ps k sp dvs dvals, X.mg (Str.ofString f) = some (.ref a) ∧ PySem.W.keepIn X.K (.ref a) = true ∧ L2.Room k X.A ∧ L2.FnOk X.prog X.w X.K X.mg X.base (L2.CX X.prog X.w) k a fd ps sp ∧
    L2.Binds X.K fd ps dvals ∧ L2.Vals dvs dvals ∧ ∀ ds cs vs H Q E, ds.length = n → PreC p T vs ds cs H (cf ds cs) Q E → sp (vs ++ dvs) H Q E

/-- the types of plain data -/
def tyTs : List String := ["NoneType", "bool", "int", "str", "list", "tuple", "dict"]
/-- a class as a value -/
def CnV (X : Cx) : Cn → V → Prop
  | .ty n, v => v = .ty n
  | .cl n, v => ∃ Ca, X.mg (Str.ofString n) = some (.ref Ca) ∧ v = .ref Ca
/-- built-in names that are used -/
def bltNames : List String := ["len", "abs", "int", "list", "tuple", "min", "max", "isinstance", "range", "bool", "str", "dict", "ValueError", "divmod", "all", "any", "sum"]
def lamArgs (a : Arguments) : Bool := a.posonlyargs.isEmpty && a.args.isEmpty && a.vararg.isNone && a.kwonlyargs.isEmpty && a.kw_defaults.isEmpty && a.kwarg.isNone && a.defaults.isEmpty
/-- what a lambda's body may use -/
def arL (ar : String → Nat → Bool) : String → Nat → Bool := fun f n => decide (n ≠ 996 ∧ n ≠ 997) && ar f n
/-- the context of a lambda's body -/
structure LamC (p : Pm) (T : List (Addr × Str)) (c : Ct) (ar : String → Nat → Bool) (X : Cx) (E : XK) : Prop where
  tk : L2.Takes X (fun cls d _ H => E cls d H)
  un : X.A.units + 64 < cLine
  call : ∀ f n, n < 900 → arL ar f n = true → CallOk X p T (fun ds cs => c.lcall f ds cs) f n
/-- what a context must have: sc its scope, N its names, ar which calls there are, cm whether nothing is handled -/
structure Cxt (F : Sf) (Wx : WX) (c : Ct) (sc : Scope) (N : List Str) (ar : String → Nat → Bool) (cm : Bool) (X : Cx) : Prop where
  hK : X.K = F.p.K
  hmg : X.mg = F.p.mg
  hsc : X.env.scope = sc
  hN : X.N = N
  hn : F.n = N.length
  nd : N.Nodup
  tk : L2.Takes X Wx
  un : X.A.units + 64 < cLine
  calm : cm = true → X.calm = true
  blt : ∀ x ∈ bltNames, X.mg (Str.ofString x) = none
  call : cm = true → ∀ f n, n < 900 → ar f n = true → CallOk X F.p F.T (fun ds cs => c.call f ds cs) f n
  kcl : ∀ C, ar C 999 = true → ∃ Ca, X.mg (Str.ofString C) = some (.ref Ca) ∧ ∀ t ∈ tyTs, PySem.W.kitOne X.K (.type t) (.ref Ca) = some false
  xis : ∀ a C dd, F.p.x0 = some (a, C, dd) → ∀ cn b, isInst (.exc C []) cn = some b → (∀ n, cn = .cl n → ar n 999 = true) → CallR X (.builtin "isinstance") (fun xs H Q => ∃ v, xs = [.ref a, v] ∧ CnV X cn v ∧ (∀ dx, dd = some dx → ∃ fs, H dx = some (.xd fs)) ∧ Q (.bl b) H)
  xat : ∀ a C dd f, F.p.x0 = some (a, C, dd) → ar f 998 = true → ∀ (e : Expr) (te : TE) (pos : Pos), PE X e te → attributeBase e (Str.ofString f) X.env (eval e X.env) = eval e X.env → ∃ Ca, PE X (.Attribute e (Str.ofString f) pos) (L2.tXf a (.ref Ca) dd Ca (Str.ofString f) te)
  ask : cm = true → ∀ f, ar f 996 = true → ar "<lambda>" 997 = true → ∃ TT : (XK → Hp → VK → Prop) → Hp → VK → Prop,
    (∀ (ps : Arguments) (bd : Expr) (ls : Scope) (p lpos pos : Pos) (t : XK → TE), lamArgs ps = true → LamX.LamS X.env.scope ls → Gl X (Str.ofString f) → (Str.ofString f == ("__debug__" : Str)) = false →
      (∀ A outer s H E f' c', LamC F.p F.T c ar (LamX.lamCx X A outer s H E ls f' c') E → PE (LamX.lamCx X A outer s H E ls f' c') bd (t E)) →
      PE X (.Call (.Name (Str.ofString f) p) [.Lambda ps bd ls lpos] [] pos) (LamX.tLam F.T TT t)) ∧
    (∀ tl th cs ia O H Q, (∀ a ∈ ia, O a) → (∀ a, O a → ¬ Nt H a) → LamX.Tabs F.T H → CellsOk F.p ia O H cs → (∀ E Q', PostC F.p F.T ia O H (th cs) Q' E → tl E H Q') → PostC F.p F.T ia O H (c.ask f th cs) Q (fun _ _ _ => False) → TT tl H Q)
  x0n : ar "<lambda>" 997 = true → F.p.x0 = none
  glo : ∀ f n, n < 900 → ar f n = true → ∃ a, X.mg (Str.ofString f) = some (.ref a)

/-! ### what is checked -/
def visB (sc : Scope) (x : Str) : Bool := match sc.names.lookup x with
  | some .local => true
  | some .cell => true
  | some .free => true
  | _ => false
def glB (sc : Scope) (x : Str) : Bool := match sc.names.lookup x with
  | some .globalImplicit => true
  | _ => false
def okN (x : Str) : Bool := !(x == ("__debug__" : Str)) && !(x == ("__classdict__" : Str)) && !(x == ("__name__" : Str))
theorem visB_ok {sc : Scope} {x : Str} (h : visB sc x = true) : Vis sc x := by
  unfold visB at h
  split at h
  · rename_i e
    exact .inl e
  · rename_i e
    exact .inr (.inl e)
  · rename_i e
    exact .inr (.inr e)
  · cases h
theorem glB_ok {sc : Scope} {x : Str} (h : glB sc x = true) : sc.names.lookup x = some .globalImplicit := by
  unfold glB at h
  split at h
  · assumption
  · cases h
/-- the heads of expressions that are served -/
def head : Expr → Bool
  | .Starred _ _ => false
  | .Slice _ _ _ _ => false
  | .Set _ _ _ => false
  | _ => true
def isComp : Expr → Bool
  | .ListComp _ _ _ _ => true
  | .SetComp _ _ _ _ => true
  | .DictComp _ _ _ _ _ => true
  | _ => false
def superCall : Expr → Bool
  | .Call (.Name _ _) [] [] _ => true
  | _ => false
def bltOf : B1 → Option String
  | .len => some "len"
  | .abs => some "abs"
  | .int => some "int"
  | .list => some "list"
  | .tuple => some "tuple"
  | .bool => some "bool"
  | _ => none
def nameIs (sc : Scope) (e : Expr) (x : String) : Bool := match e with
  | .Name y _ => decide (y = Str.ofString x) && glB sc y && okN y
  | _ => false
def lenE : E → Nat
  | .cons _ b => lenE b + 1
  | _ => 0
end RX

/-! F6: expressions taken apart; the check. -/
namespace RX
open PySem PySem.Spec PyProof.Rows
def dName : Expr → Option (Str × Pos)
  | .Name x p => some (x, p)
  | _ => none
theorem dName_ok {e : Expr} {z : Str × Pos} (h : dName e = some z) : ∃ x p, z = (x, p) ∧ e = .Name x p := by
  unfold dName at h
  split at h
  · cases h
    exact ⟨_, _, rfl, rfl⟩
  · cases h
def dInt : Expr → Option (Int × Nat × Pos)
  | .Constant (.int x) k p => some (x, k, p)
  | _ => none
theorem dInt_ok {e : Expr} {z : Int × Nat × Pos} (h : dInt e = some z) : ∃ x k p, z = (x, k, p) ∧ e = .Constant (.int x) k p := by
  unfold dInt at h
  split at h
  · cases h
    exact ⟨_, _, _, rfl, rfl⟩
  · cases h
def dStr : Expr → Option (Str × Nat × Pos)
  | .Constant (.str x) k p => some (x, k, p)
  | _ => none
theorem dStr_ok {e : Expr} {z : Str × Nat × Pos} (h : dStr e = some z) : ∃ x k p, z = (x, k, p) ∧ e = .Constant (.str x) k p := by
  unfold dStr at h
  split at h
  · cases h
    exact ⟨_, _, _, rfl, rfl⟩
  · cases h
def dBl : Expr → Option (Bool × Nat × Pos)
  | .Constant (.bool x) k p => some (x, k, p)
  | _ => none
theorem dBl_ok {e : Expr} {z : Bool × Nat × Pos} (h : dBl e = some z) : ∃ x k p, z = (x, k, p) ∧ e = .Constant (.bool x) k p := by
  unfold dBl at h
  split at h
  · cases h
    exact ⟨_, _, _, rfl, rfl⟩
  · cases h
def dNon : Expr → Option (Nat × Pos)
  | .Constant .none k p => some (k, p)
  | _ => none
theorem dNon_ok {e : Expr} {z : Nat × Pos} (h : dNon e = some z) : ∃ k p, z = (k, p) ∧ e = .Constant .none k p := by
  unfold dNon at h
  split at h
  · cases h
    exact ⟨_, _, rfl, rfl⟩
  · cases h
def dBin : Expr → Option (Expr × Operator × Expr × Pos)
  | .BinOp a o b p => some (a, o, b, p)
  | _ => none
theorem dBin_ok {e : Expr} {z : Expr × Operator × Expr × Pos} (h : dBin e = some z) : ∃ a o b p, z = (a, o, b, p) ∧ e = .BinOp a o b p := by
  unfold dBin at h
  split at h
  · cases h
    exact ⟨_, _, _, _, rfl, rfl⟩
  · cases h
def dUn : Expr → Option (UnaryOp × Expr × Pos)
  | .UnaryOp o a p => some (o, a, p)
  | _ => none
theorem dUn_ok {e : Expr} {z : UnaryOp × Expr × Pos} (h : dUn e = some z) : ∃ o a p, z = (o, a, p) ∧ e = .UnaryOp o a p := by
  unfold dUn at h
  split at h
  · cases h
    exact ⟨_, _, _, rfl, rfl⟩
  · cases h
def dBool : Expr → Option (BoolOp × List Expr × Pos)
  | .BoolOp o a p => some (o, a, p)
  | _ => none
theorem dBool_ok {e : Expr} {z : BoolOp × List Expr × Pos} (h : dBool e = some z) : ∃ o a p, z = (o, a, p) ∧ e = .BoolOp o a p := by
  unfold dBool at h
  split at h
  · cases h
    exact ⟨_, _, _, rfl, rfl⟩
  · cases h
def dCmp : Expr → Option (Expr × CmpOp × Expr × Pos)
  | .Compare a [o] [b] p => some (a, o, b, p)
  | _ => none
theorem dCmp_ok {e : Expr} {z : Expr × CmpOp × Expr × Pos} (h : dCmp e = some z) : ∃ a o b p, z = (a, o, b, p) ∧ e = .Compare a [o] [b] p := by
  unfold dCmp at h
  split at h
  · cases h
    exact ⟨_, _, _, _, rfl, rfl⟩
  · cases h
def dCmp2 : Expr → Option (Expr × CmpOp × CmpOp × Expr × Expr × Pos)
  | .Compare a [o, q] [b, c] p => some (a, o, q, b, c, p)
  | _ => none
theorem dCmp2_ok {e : Expr} {z : Expr × CmpOp × CmpOp × Expr × Expr × Pos} (h : dCmp2 e = some z) : ∃ a o q b c p, z = (a, o, q, b, c, p) ∧ e = .Compare a [o, q] [b, c] p := by
  unfold dCmp2 at h
  split at h
  · cases h
    exact ⟨_, _, _, _, _, _, rfl, rfl⟩
  · cases h
def dIf : Expr → Option (Expr × Expr × Expr × Pos)
  | .IfExp a b c p => some (a, b, c, p)
  | _ => none
theorem dIf_ok {e : Expr} {z : Expr × Expr × Expr × Pos} (h : dIf e = some z) : ∃ a b c p, z = (a, b, c, p) ∧ e = .IfExp a b c p := by
  unfold dIf at h
  split at h
  · cases h
    exact ⟨_, _, _, _, rfl, rfl⟩
  · cases h
def dCall : Expr → Option (Str × Pos × List Expr × Pos)
  | .Call (.Name x q) as [] p => some (x, q, as, p)
  | _ => none
theorem dCall_ok {e : Expr} {z : Str × Pos × List Expr × Pos} (h : dCall e = some z) : ∃ x q as p, z = (x, q, as, p) ∧ e = .Call (.Name x q) as [] p := by
  unfold dCall at h
  split at h
  · cases h
    exact ⟨_, _, _, _, rfl, rfl⟩
  · cases h
def dMeth : Expr → Option (Expr × Str × Pos × List Expr × Pos)
  | .Call (.Attribute o m q) as [] p => some (o, m, q, as, p)
  | _ => none
theorem dMeth_ok {e : Expr} {z : Expr × Str × Pos × List Expr × Pos} (h : dMeth e = some z) : ∃ o m q as p, z = (o, m, q, as, p) ∧ e = .Call (.Attribute o m q) as [] p := by
  unfold dMeth at h
  split at h
  · cases h
    exact ⟨_, _, _, _, _, rfl, rfl⟩
  · cases h
def dLam : Expr → Option (Str × Pos × Arguments × Expr × Scope × Pos × Pos)
  | .Call (.Name x q) [.Lambda ps b sc lp] [] p => some (x, q, ps, b, sc, lp, p)
  | _ => none
theorem dLam_ok {e : Expr} {z : Str × Pos × Arguments × Expr × Scope × Pos × Pos} (h : dLam e = some z) : ∃ x q ps b sc lp p, z = (x, q, ps, b, sc, lp, p) ∧ e = .Call (.Name x q) [.Lambda ps b sc lp] [] p := by
  unfold dLam at h
  split at h
  · cases h
    exact ⟨_, _, _, _, _, _, _, rfl, rfl⟩
  · cases h
def dSub : Expr → Option (Expr × Expr × Pos)
  | .Subscript a b p => some (a, b, p)
  | _ => none
theorem dSub_ok {e : Expr} {z : Expr × Expr × Pos} (h : dSub e = some z) : ∃ a b p, z = (a, b, p) ∧ e = .Subscript a b p := by
  unfold dSub at h
  split at h
  · cases h
    exact ⟨_, _, _, rfl, rfl⟩
  · cases h
def dSlc : Expr → Option (Expr × Option Expr × Option Expr × Pos × Pos)
  | .Subscript a (.Slice l h none q) p => some (a, l, h, q, p)
  | _ => none
theorem dSlc_ok {e : Expr} {z : Expr × Option Expr × Option Expr × Pos × Pos} (h : dSlc e = some z) : ∃ a l h q p, z = (a, l, h, q, p) ∧ e = .Subscript a (.Slice l h none q) p := by
  unfold dSlc at h
  split at h
  · cases h
    exact ⟨_, _, _, _, _, rfl, rfl⟩
  · cases h
def dRev : Expr → Option (Expr × Nat × Pos × Pos × Pos × Pos)
  | .Subscript a (.Slice none none (some (.UnaryOp .USub (.Constant (.int 1) k p1) p2)) p3) p => some (a, k, p1, p2, p3, p)
  | _ => none
theorem dRev_ok {e : Expr} {z : Expr × Nat × Pos × Pos × Pos × Pos} (h : dRev e = some z) : ∃ a k p1 p2 p3 p, z = (a, k, p1, p2, p3, p) ∧ e = .Subscript a (.Slice none none (some (.UnaryOp .USub (.Constant (.int 1) k p1) p2)) p3) p := by
  unfold dRev at h
  split at h
  · cases h
    exact ⟨_, _, _, _, _, _, rfl, rfl⟩
  · cases h
def dTup : Expr → Option (List Expr × Nat × Pos)
  | .Tuple as k p => some (as, k, p)
  | _ => none
theorem dTup_ok {e : Expr} {z : List Expr × Nat × Pos} (h : dTup e = some z) : ∃ as k p, z = (as, k, p) ∧ e = .Tuple as k p := by
  unfold dTup at h
  split at h
  · cases h
    exact ⟨_, _, _, rfl, rfl⟩
  · cases h
def dLst : Expr → Option (List Expr × Pos)
  | .List as p => some (as, p)
  | _ => none
theorem dLst_ok {e : Expr} {z : List Expr × Pos} (h : dLst e = some z) : ∃ as p, z = (as, p) ∧ e = .List as p := by
  unfold dLst at h
  split at h
  · cases h
    exact ⟨_, _, rfl, rfl⟩
  · cases h
def dDic : Expr → Option (List (Option Expr) × List Expr × Pos)
  | .Dict ks vs p => some (ks, vs, p)
  | _ => none
theorem dDic_ok {e : Expr} {z : List (Option Expr) × List Expr × Pos} (h : dDic e = some z) : ∃ ks vs p, z = (ks, vs, p) ∧ e = .Dict ks vs p := by
  unfold dDic at h
  split at h
  · cases h
    exact ⟨_, _, _, rfl, rfl⟩
  · cases h
def dComp : Expr → Option (Expr × Expr × Expr × List Expr × Scope × Pos)
  | .ListComp el [⟨tg, it, ifs, 0⟩] sc p => some (el, tg, it, ifs, sc, p)
  | _ => none
theorem dComp_ok {e : Expr} {z : Expr × Expr × Expr × List Expr × Scope × Pos} (h : dComp e = some z) : ∃ el tg it ifs sc p, z = (el, tg, it, ifs, sc, p) ∧ e = .ListComp el [⟨tg, it, ifs, 0⟩] sc p := by
  unfold dComp at h
  split at h
  · cases h
    exact ⟨_, _, _, _, _, _, rfl, rfl⟩
  · cases h
def dAttr : Expr → Option (Expr × Str × Pos)
  | .Attribute a x p => some (a, x, p)
  | _ => none
theorem dAttr_ok {e : Expr} {z : Expr × Str × Pos} (h : dAttr e = some z) : ∃ a x p, z = (a, x, p) ∧ e = .Attribute a x p := by
  unfold dAttr at h
  split at h
  · cases h
    exact ⟨_, _, _, rfl, rfl⟩
  · cases h
inductive Md where
  | val | bor | tst
  deriving DecidableEq
def opM : Md → Md
  | .tst => .tst
  | _ => .val
def subM : Md → Md
  | .tst => .tst
  | _ => .bor
def slotB (sc : Scope) (N : List Str) (i : Nat) (x : Str) : Bool := decide (N[i]? = some x) && (visB sc x && okN x)
def gnB (sc : Scope) (f : String) (x : Str) : Bool := decide (x = Str.ofString f) && (glB sc x && okN x)
def b2Of : B2 → Option String
  | .min => some "min"
  | .max => some "max"
  | _ => none
def tyNames : List String := ["int", "bool", "str", "list", "tuple", "dict", "ValueError"]
def cn1 (ar : String → Nat → Bool) (sc : Scope) : Cn → Str → Bool
  | .ty n, x => gnB sc n x && decide (n ∈ tyNames)
  | .cl n, x => gnB sc n x && ar n 999
def cnB (ar : String → Nat → Bool) (sc : Scope) : List Cn → List Expr → Bool
  | [], [] => true
  | c :: cs, e :: es => (match dName e with
    | some (x, _) => cn1 ar sc c x && cnB ar sc cs es
    | none => false)
  | _, _ => false
def isiB (ar : String → Nat → Bool) (sc : Scope) (cs : List Cn) (e : Expr) : Bool := match dName e with
  | some (x, _) => (match cs with
    | [c] => cn1 ar sc c x
    | _ => false)
  | none => (match dTup e with
    | some (es, _, _) => decide (es.length ≤ 1000) && (decide (cs.length ≠ 1) && cnB ar sc cs es)
    | none => false)
/-- the comprehension's own name at its slot -/
def compB (sc : Scope) (N : List Str) (i : Nat) (tg : Expr) (cs : Scope) : Bool := match tg with
  | .Name x _ => decide (N[i]? = some x) && (decide (cs.names.lookup x = some .local) && L2.blkC N sc cs [(x, i)])
  | _ => false
mutual
def chk (ar : String → Nat → Bool) (cm : Bool) (sc : Scope) (N : List Str) : Md → E → Expr → Bool
  | _, .nm i, e => (match dName e with
    | some (x, _) => slotB sc N i x
    | none => false)
  | md, .bor i, e => (match dName e with
    | some (x, _) => decide (md ≠ .val) && slotB sc N i x
    | none => false)
  | _, .kI i, e => (match dInt e with
    | some (j, _, _) => decide (i = j)
    | none => false)
  | _, .kS i, e => (match dStr e with
    | some (j, _, _) => decide (i = j.cps.toList)
    | none => false)
  | _, .kB i, e => (match dBl e with
    | some (j, _, _) => decide (i = j)
    | none => false)
  | _, .kN, e => (dNon e).isSome
  | _, .glo f, e => (match dName e with
    | some (x, _) => gnB sc f x && (ar f 0 || ar f 1 || ar f 2)
    | none => false)
  | _, .bin o a b, e => (match dBin e with
    | some (l, op, r, _) => decide (o = op) && (chk ar cm sc N .bor a l && chk ar cm sc N .bor b r)
    | none => false)
  | _, .neg a, e => (match dUn e with
    | some (op, l, _) => decide (op = .USub) && chk ar cm sc N .val a l
    | none => false)
  | md, .not a, e => (match dUn e with
    | some (op, l, _) => decide (op = .Not) && chk ar cm sc N (subM md) a l
    | none => false)
  | md, .and as, e => (match dBool e with
    | some (op, l, _) => decide (op = .And) && chkL ar cm sc N (opM md) as l
    | none => false)
  | md, .or as, e => (match dBool e with
    | some (op, l, _) => decide (op = .Or) && chkL ar cm sc N (opM md) as l
    | none => false)
  | _, .cmp o a b, e => (match dCmp e with
    | some (l, op, r, _) => decide (o = op) && (head r && (chk ar cm sc N .bor a l && chk ar cm sc N .bor b r))
    | none => false)
  | _, .cmp2 o p a b c, e => (match dCmp2 e with
    | some (l, op, oq, r, t, _) => decide (o = op) && (decide (p = oq) && (head r && (head t && (chk ar cm sc N .bor a l && (chk ar cm sc N .bor b r && chk ar cm sc N .bor c t)))))
    | none => false)
  | md, .ife t a b, e => (match dIf e with
    | some (x, l, r, _) => decide (md ≠ .tst) && (chk ar cm sc N .tst t x && (chk ar cm sc N .val a l && chk ar cm sc N .val b r))
    | none => false)
  | _, .call f as, e => (match dCall e with
    | some (x, _, es, _) => gnB sc f x && (cm && ((decide (es.length < 900) && ar f es.length) && chkL ar cm sc N .val as es))
    | none => false)
  | _, .bu f a, e => (match dCall e with
    | some (x, _, [y], _) => (match bltOf f with
      | some n => gnB sc n x && (head y && ((cm || decide (f ≠ .list)) && chk ar cm sc N .bor a y))
      | none => false)
    | _ => (match dMeth e with
      | some (o, m, q, [], p) => decide (f = .bitlen) && (decide (m = Str.ofString "bit_length") && (decide (q.endLine = p.line) && (!superCall o && chk ar cm sc N .bor a o)))
      | _ => false))
  | _, .bb f a b, e => (match dCall e with
    | some (x, _, [y, z], _) => (match b2Of f with
      | some n => gnB sc n x && (cm && (head y && (head z && (chk ar cm sc N .val a y && chk ar cm sc N .val b z))))
      | none => false)
    | _ => false)
  | _, .isi a cs, e => (match dCall e with
    | some (x, _, [y, z], _) => gnB sc "isinstance" x && (head y && (isiB ar sc cs z && chk ar cm sc N .bor a y))
    | _ => false)
  | _, .ix a b, e => (match dSub e with
    | some (x, y, _) => head y && (chk ar cm sc N .bor a x && chk ar cm sc N .val b y)
    | none => false)
  | _, .tupD as, e => (match dTup e with
    | some (es, _, _) => decide (es.length ≤ 1000) && chkL ar cm sc N .val as es
    | none => false)
  | _, .lstD as, e => (match dLst e with
    | some (es, _) => decide (es.length ≤ 1000) && chkL ar cm sc N .val as es
    | none => false)
  | _, .dicD as, e => (match dDic e with
    | some ([], [], _) => decide (lenE as = 0) && chkL ar cm sc N .val as []
    | _ => false)
  | _, .attr f a, e => (match dAttr e with
    | some (x, n, _) => decide (n = Str.ofString f) && (ar f 998 && (!superCall x && chk ar cm sc N .val a x))
    | none => false)
  | _, .callv i fs as, e => (match dCall e with
    | some (x, _, y :: es, _) => slotB sc N i x && (cm && ((decide (es.length + 1 < 900) && fs.all (fun f => ar f (es.length + 1))) && chkL ar cm sc N .val as (y :: es)))
    | _ => false)
  | _, .ask f b, e => (match dLam e with
    | some (x, _, ps, bd, ls, _, _) => gnB sc f x && (cm && (ar f 996 && (ar "<lambda>" 997 && (lamArgs ps && (LamX.lamSB sc ls && chk (arL ar) true ls N .val b bd)))))
    | none => false)
  | _, .nope, _ => true
  | _, _, _ => false
def chkL (ar : String → Nat → Bool) (cm : Bool) (sc : Scope) (N : List Str) : Md → E → List Expr → Bool
  | _, .nil, es => es.isEmpty
  | md, .cons a b, es => (match es with
    | x :: r => head x && (chk ar cm sc N md a x && chkL ar cm sc N md b r)
    | [] => false)
  | _, _, _ => false
end
end RX

/-! F7: expressions are sound, the parts. -/
namespace RX
open PySem PySem.Spec PyProof.Rows
open L2 (Hp V HO VK XK WX upd Cx OpR R2 PE PT PA TE TA TT Gl Vis Inv EP PW)

def tE (F : Sf) (Wx : WX) (c : Ct) (m : E) : TE := fun σ H Q => ∃ ia w, Fr F ia w σ H ∧ Post F Wx σ ia w H (rD F.p) (evE c m w) Q
def tB (F : Sf) (Wx : WX) (c : Ct) (m : E) : TE := fun σ H Q => ∃ ia w, Fr F ia w σ H ∧ Post F Wx σ ia w H (rB F.p) (evE c m w) Q
def tT (F : Sf) (Wx : WX) (c : Ct) (m : E) : TT := fun σ H Q => ∃ ia w, Fr F ia w σ H ∧ Post F Wx σ ia w H (rEq (α := Bool)) ((evE c m w).bind fun x w1 => tr x w1) Q
def tEs (F : Sf) (Wx : WX) (c : Ct) (m : E) : TA := fun σ H Q => ∃ ia w, Fr F ia w σ H ∧ Post F Wx σ ia w H (rDs F.p) (evEs c m w) Q

section
variable {X : Cx} {e : Expr} {t t' : TE} {u u' : TT}
theorem pe_weak (h : PE X e t) (k : ∀ σ H Q, t' σ H Q → t σ H Q) : PE X e t' := ⟨fun pins s σ H Q I q => h.run pins s σ H Q I (k σ H Q q)⟩
theorem pt_weak (h : PT X e u) (k : ∀ σ H Q, u' σ H Q → u σ H Q) : PT X e u' := ⟨fun pins s σ H Q I q => h.run pins s σ H Q I (k σ H Q q)⟩
theorem pa_weak {es : List Expr} {t t' : TA} (h : PA X es t) (k : ∀ σ H Q, t' σ H Q → t σ H Q) : PA X es t' := ⟨fun pos pins s σ H Q I q => h.run pos pins s σ H Q I (k σ H Q q)⟩
theorem pe_never : PE X e (fun _ _ _ => False) := ⟨fun _ _ _ _ _ _ q => q.elim⟩
end
section
variable {F : Sf} {Wx : WX} {c : Ct} {sc : Scope} {N : List Str} {ar : String → Nat → Bool} {cm : Bool} {X : Cx} {m a b d : E} {e l r : Expr}
theorem b_of (h : PE X e (tE F Wx c m)) : PE X e (tB F Wx c m) := pe_weak h fun σ H Q ⟨ia, w, f, q⟩ => ⟨ia, w, f, by
  revert q
  cases evE c m w with
  | ok a w' => exact fun q v H' f1 l1 s1 r1 => q v H' f1 l1 s1 (.inl r1)
  | ex C fs w' => exact fun q => q
  | bad => exact fun q => q⟩
theorem t_of (cx : Cxt F Wx c sc N ar cm X) (h : PE X e (tB F Wx c m)) (he : ∀ whole, isTrue e X.env whole = (do let v ← whole; standAt e.pos; holding [v] (truthy v))) : PT X e (tT F Wx c m) :=
  pt_weak (L2.pt_truth h he) fun σ H Q ⟨ia, w, f, q⟩ => ⟨ia, w, f, q.bind fun x w1 v H1 f1 l1 s1 r1 h1 => by
    unfold tr at h1
    cases ht : truth (dr w1 x) with
    | none =>
      rw [ht] at h1
      exact h1.elim
    | some k =>
      rw [ht] at h1
      exact ⟨k, by rw [cx.hK]; exact truV_of ht (f1.dr r1.b), h1.here f1 rfl⟩⟩
/-- a slot read -/
theorem s_nm (cx : Cxt F Wx c sc N ar cm X) {i : Nat} {x : Str} {pos : Pos} (h : slotB sc N i x = true) : PE X (.Name x pos) (tE F Wx c (.nm i)) := by
  unfold slotB at h
  simp only [Bool.and_eq_true, decide_eq_true_eq] at h
  obtain ⟨h1, h2, h3⟩ := h
  unfold okN at h3
  simp only [Bool.and_eq_true, Bool.not_eq_true'] at h3
  refine pe_weak (L2.pe_var (i := i) (by rw [cx.hN]; exact h1) (by rw [cx.hsc]; exact visB_ok h2) h3.1.1 h3.1.2) fun σ H Q ⟨ia, w, f, q⟩ => ?_
  have q' : Post F Wx σ ia w H (rD F.p) (rdS w i) Q := q
  unfold rdS at q'
  split at q'
  · rename_i d hd
    obtain ⟨v, e, rr⟩ := f.slv i d hd
    exact ⟨v, e, q' v H f Le.refl (fun _ z => z) rr⟩
  · rename_i d hd
    obtain ⟨f2, s2, v, e, rr⟩ := f.freeze hd
    exact ⟨v, e, q' v H f2 Le.refl s2 rr⟩
  · exact q'.elim
theorem s_bor (cx : Cxt F Wx c sc N ar cm X) {i : Nat} {x : Str} {pos : Pos} (h : slotB sc N i x = true) : PE X (.Name x pos) (tB F Wx c (.bor i)) := by
  unfold slotB at h
  simp only [Bool.and_eq_true, decide_eq_true_eq] at h
  obtain ⟨h1, h2, h3⟩ := h
  unfold okN at h3
  simp only [Bool.and_eq_true, Bool.not_eq_true'] at h3
  refine pe_weak (L2.pe_var (i := i) (by rw [cx.hN]; exact h1) (by rw [cx.hsc]; exact visB_ok h2) h3.1.1 h3.1.2) fun σ H Q ⟨ia, w, f, q⟩ => ?_
  have q' : Post F Wx σ ia w H (rB F.p) (rdB w i) Q := q
  unfold rdB at q'
  split at q'
  · rename_i d hd
    obtain ⟨v, e, rr⟩ := f.slv i d hd
    exact ⟨v, e, q' v H f Le.refl (fun _ z => z) (.inl rr)⟩
  · rename_i d hd
    obtain ⟨a, e, ca, _, na⟩ := f.slo i d (.inl hd)
    exact ⟨_, e, q' _ H f Le.refl (fun _ z => z) (.inr ⟨a, rfl, na, ca⟩)⟩
  · rename_i d hd
    obtain ⟨a, e, ca, _, na⟩ := f.slo i d (.inr hd)
    exact ⟨_, e, q' _ H f Le.refl (fun _ z => z) (.inr ⟨a, rfl, na, ca⟩)⟩
  · exact q'.elim
theorem s_const {v : V} {d : D} (h : PE X e (L2.tC v)) (hr : ∀ ia O H, Rep F.p ia O H d v) (hm : ∀ w, evE c m w = .ok d w) : PE X e (tE F Wx c m) := pe_weak h fun σ H Q ⟨ia, w, f, q⟩ => by
  rw [hm w] at q
  exact q.here f (hr _ _ _)
/-- two parts, then an operation by values -/
theorem two {op : R2} (ha : PE X l (tB F Wx c a)) {σ : L2.St} {H : Hp} {Q : VK} {w : W} {ia : List Addr} {g : D → D → W → R D} (f : Fr F ia w σ H)
    (q : Post F Wx σ ia w H (rD F.p) ((evE c a w).bind fun x w1 => (evE c b w1).bind fun y w2 => g x y w2) Q)
    (k : ∀ x y w2 vx vy H2, Fr F ia w2 σ H2 → RepB F.p ia (Mu F ia w2 σ) H2 x vx → RepB F.p ia (Mu F ia w2 σ) H2 y vy → Post F Wx σ ia w2 H2 (rD F.p) (g x y w2) Q → op vx vy H2 Q) : L2.tOp op (tB F Wx c a) (tB F Wx c b) σ H Q :=
  ⟨ia, w, f, q.bind fun x w1 v H1 f1 l1 s1 r1 h1 => ⟨ia, w1, f1, h1.bind fun y w2 u H2 f2 l2 s2 r2 h2 => k x y w2 v u H2 f2 (by
    have o : On ia ia (Mu F ia w1 σ) (Mu F ia w2 σ) H1 H2 := ⟨l2, fun b hb => .inr (.inl hb), fun b hb => .inl (s2 b hb), fun _ _ h => h⟩
    exact (r1.on o).b) r2.b h2⟩⟩

theorem s_bin (cx : Cxt F Wx c sc N ar cm X) {o : Operator} {pos : Pos} (ha : PE X l (tB F Wx c a)) (hb : PE X r (tB F Wx c b)) : PE X (.BinOp l o r pos) (tE F Wx c (.bin o a b)) :=
  pe_weak (L2.pe_op (binR_ok o) ha hb) fun σ H Q ⟨ia, w, f, q⟩ => two ha f (g := fun x y w2 => opt (binop o (dr w2 x) (dr w2 y)) w2) q fun x y w2 vx vy H2 f2 rx ry h2 => by
    cases hz : binop o (dr w2 x) (dr w2 y) with
    | none =>
      rw [hz] at h2
      exact h2.elim
    | some z =>
      rw [hz] at h2
      exact binR_of hz f2 (f2.dr rx) (f2.dr ry) fun v H' f3 l3 r3 _ => h2 v H' f3 l3 (fun _ z => z) r3
theorem s_neg (cx : Cxt F Wx c sc N ar cm X) {pos : Pos} (ha : PE X l (tE F Wx c a)) : PE X (.UnaryOp .USub l pos) (tE F Wx c (.neg a)) :=
  pe_weak (L2.pe_un L2.un_neg ha) fun σ H Q ⟨ia, w, f, q⟩ => by
    have q' : Post F Wx σ ia w H (rD F.p) ((evE c a w).bind fun x w1 => match x with
      | .int i => .ok (.int (-i)) w1
      | _ => .bad) Q := q
    refine ⟨ia, w, f, q'.bind fun x w1 v H1 f1 l1 s1 r1 h1 => ?_⟩
    cases x with
    | int i =>
      have e : v = .int i := by
        have r1' : Rep F.p ia (Mu F ia w1 σ) H1 (.int i) v := r1
        unfold Rep at r1'
        exact r1'
      exact ⟨i, e, h1.here f1 (by show Rep _ _ _ _ _ _; unfold Rep; rfl)⟩
    | _ => exact h1.elim
theorem rep_bl {p : Pm} {ia : List Addr} {O : Addr → Prop} {H : Hp} {x : Bool} : Rep p ia O H (.bl x) (.bl x) := by unfold Rep; rfl
theorem s_cmpTail (cx : Cxt F Wx c sc N ar cm X) {o : CmpOp} {σ : L2.St} {H2 : Hp} {ia : List Addr} {w2 : W} {x y : D} {vx vy : V} {Q : VK} (f2 : Fr F ia w2 σ H2) (rx : RepB F.p ia (Mu F ia w2 σ) H2 x vx) (ry : RepB F.p ia (Mu F ia w2 σ) H2 y vy)
    (h2 : Post F Wx σ ia w2 H2 (rD F.p) ((opt (cmpop o (dr w2 x) (dr w2 y)) w2).bind fun t w3 => .ok (.bl t) w3) Q) : cmpR X o vx vy H2 Q := by
  cases hz : cmpop o (dr w2 x) (dr w2 y) with
  | none =>
    rw [hz] at h2
    exact h2.elim
  | some z =>
    rw [hz] at h2
    exact cmpR_of cx.hK hz f2 (f2.dr rx) (f2.dr ry) (Post.here h2 f2 rep_bl)
theorem s_cmp (cx : Cxt F Wx c sc N ar cm X) {o : CmpOp} {pos : Pos} (ha : PE X l (tB F Wx c a)) (hb : PE X r (tB F Wx c b)) (hr : head r = true) : PE X (.Compare l [o] [r] pos) (tE F Wx c (.cmp o a b)) :=
  pe_weak (L2.pe_cmpR (cmpR_ok cx.un o) ha hb (by cases r <;> first | rfl | cases hr)) fun σ H Q ⟨ia, w, f, q⟩ =>
    two ha f (g := fun x y w2 => (opt (cmpop o (dr w2 x) (dr w2 y)) w2).bind fun t w3 => .ok (.bl t) w3) q fun x y w2 vx vy H2 f2 rx ry h2 => s_cmpTail cx f2 rx ry h2
/-- a value that is a truth value, as a test -/
theorem bl_test {σ : L2.St} {ia : List Addr} {w : W} {H : Hp} {Q : Bool → Hp → Prop} (h : Post F Wx σ ia w H (rEq (α := Bool)) (((evE c m w)).bind fun x w1 => tr x w1) Q) :
    Post F Wx σ ia w H (rD F.p) (evE c m w) (fun v H' => (∃ k, v = .bl k ∧ Q k H') ∨ ∀ k, v ≠ .bl k) := h.bind fun x w1 v H1 f1 l1 s1 r1 h1 => by
  cases x with
  | bl k =>
    have e : v = .bl k := by
      have r1' : Rep F.p ia (Mu F ia w1 σ) H1 (.bl k) v := r1
      unfold Rep at r1'
      exact r1'
    exact .inl ⟨k, e, Post.here (a := k) (by exact h1) f1 rfl⟩
  | _ =>
    refine .inr fun k z => ?_
    subst z
    have r1' := r1
    unfold rD at r1'
    unfold Rep at r1'
    first
      | exact nomatch r1'
      | (obtain ⟨_, _, q, _⟩ := r1'; cases q)
      | (obtain ⟨_, _, _, _, q, _⟩ := r1'; cases q)
      | (obtain ⟨_, _, q⟩ := r1'; cases q)
      | (obtain ⟨_, _, _, q, _⟩ := r1'; cases q)
theorem s_cmpT (cx : Cxt F Wx c sc N ar cm X) {o : CmpOp} {pos : Pos} (ha : PE X l (tB F Wx c a)) (hb : PE X r (tB F Wx c b)) (hr : head r = true) : PT X (.Compare l [o] [r] pos) (tT F Wx c (.cmp o a b)) :=
  pt_weak (L2.pt_cmpR (cmpR_ok cx.un o) ha hb (by cases r <;> first | rfl | cases hr)) fun σ H Q ⟨ia, w, f, q⟩ => by
    have q2 : Post F Wx σ ia w H (rEq (α := Bool)) ((evE c a w).bind fun x w1 => (evE c b w1).bind fun y w2 => (opt (cmpop o (dr w2 x) (dr w2 y)) w2).bind fun t w3 => .ok t w3) Q := by
      revert q
      show Post F Wx σ ia w H (rEq (α := Bool)) (((evE c a w).bind fun x w1 => (evE c b w1).bind fun y w2 => (opt (cmpop o (dr w2 x) (dr w2 y)) w2).bind fun t w3 => .ok (.bl t) w3).bind fun x w1 => tr x w1) Q → _
      cases evE c a w with
      | ok x w1 =>
        show Post F Wx σ ia w H (rEq (α := Bool)) (((evE c b w1).bind fun y w2 => (opt (cmpop o (dr w2 x) (dr w2 y)) w2).bind fun t w3 => .ok (.bl t) w3).bind fun x w1 => tr x w1) Q → Post F Wx σ ia w H (rEq (α := Bool)) ((evE c b w1).bind fun y w2 => (opt (cmpop o (dr w2 x) (dr w2 y)) w2).bind fun t w3 => .ok t w3) Q
        cases evE c b w1 with
        | ok y w2 =>
          show Post F Wx σ ia w H (rEq (α := Bool)) (((opt (cmpop o (dr w2 x) (dr w2 y)) w2).bind fun t w3 => .ok (.bl t) w3).bind fun x w1 => tr x w1) Q → Post F Wx σ ia w H (rEq (α := Bool)) ((opt (cmpop o (dr w2 x) (dr w2 y)) w2).bind fun t w3 => .ok t w3) Q
          cases cmpop o (dr w2 x) (dr w2 y) with
          | none => exact fun q => q
          | some z => exact fun q => q
        | ex C fs w' => exact fun q => q
        | bad => exact fun q => q
      | ex C fs w' => exact fun q => q
      | bad => exact fun q => q
    refine ⟨ia, w, f, q2.bind fun x w1 v H1 f1 l1 s1 r1 h1 => ⟨ia, w1, f1, h1.bind fun y w2 u H2 f2 l2 s2 r2 h2 => ?_⟩⟩
    have o1 : On ia ia (Mu F ia w1 σ) (Mu F ia w2 σ) H1 H2 := ⟨l2, fun b hb => .inr (.inl hb), fun b hb => .inl (s2 b hb), fun _ _ h => h⟩
    cases hz : cmpop o (dr w2 x) (dr w2 y) with
    | none =>
      rw [hz] at h2
      exact h2.elim
    | some z =>
      rw [hz] at h2
      exact cmpR_of cx.hK hz f2 (f2.dr (r1.on o1).b) (f2.dr r2.b) ⟨z, rfl, Post.here h2 f2 rfl⟩
end
end RX

/-! F8: more parts of expressions. -/
namespace RX
open PySem PySem.Spec PyProof.Rows
open L2 (Hp V HO VK XK WX upd Cx OpR R2 PE PT PA TE TA TT Gl Vis Inv EP PW)
section
variable {F : Sf} {Wx : WX} {c : Ct} {sc : Scope} {N : List Str} {ar : String → Nat → Bool} {cm : Bool} {X : Cx} {m a b d : E} {e l r : Expr}
theorem s_not (cx : Cxt F Wx c sc N ar cm X) {pos : Pos} (ha : PE X l (tB F Wx c a)) : PE X (.UnaryOp .Not l pos) (tE F Wx c (.not a)) :=
  pe_weak (L2.pe_notT ha) fun σ H Q ⟨ia, w, f, q⟩ => by
    have q' : Post F Wx σ ia w H (rD F.p) ((evE c a w).bind fun x w1 => (tr x w1).bind fun b w2 => .ok (.bl (!b)) w2) Q := q
    refine ⟨ia, w, f, q'.bind fun x w1 v H1 f1 l1 s1 r1 h1 => ?_⟩
    unfold tr at h1
    cases ht : truth (dr w1 x) with
    | none =>
      rw [ht] at h1
      exact h1.elim
    | some k =>
      rw [ht] at h1
      exact ⟨k, by rw [cx.hK]; exact truV_of ht (f1.dr r1.b), Post.here h1 f1 rep_bl⟩
theorem s_notT (cx : Cxt F Wx c sc N ar cm X) {pos : Pos} (ha : PT X l (tT F Wx c a)) : PT X (.UnaryOp .Not l pos) (tT F Wx c (.not a)) :=
  pt_weak (L2.pt_not ha) fun σ H Q ⟨ia, w, f, q⟩ => ⟨ia, w, f, by
    revert q
    show Post F Wx σ ia w H (rEq (α := Bool)) (((evE c a w).bind fun x w1 => (tr x w1).bind fun b w2 => .ok (.bl (!b)) w2).bind fun x w1 => tr x w1) Q → _
    cases evE c a w with
    | ok x w1 =>
      show Post F Wx σ ia w H (rEq (α := Bool)) (((tr x w1).bind fun b w2 => .ok (.bl (!b)) w2).bind fun x w1 => tr x w1) Q → Post F Wx σ ia w H (rEq (α := Bool)) (tr x w1) (fun c H1 => Q (!c) H1)
      unfold tr
      cases truth (dr w1 x) with
      | none => exact fun q => q
      | some k =>
        intro q v H' f1 l1 s1 r1
        cases r1
        exact q _ H' f1 l1 s1 rfl
    | ex C fs w' => exact fun q => q
    | bad => exact fun q => q⟩
/-- and, or over a list of parts: as values, as tests -/
theorem s_andV (cx : Cxt F Wx c sc N ar cm X) {pos : Pos} {rest : List Expr} {b2 r2 : E} (ha : PE X l (tE F Wx c a)) (hb : PE X (.BoolOp .And (r :: rest) pos) (tE F Wx c (.and (.cons b2 r2)))) : PE X (.BoolOp .And (l :: r :: rest) pos) (tE F Wx c (.and (.cons a (.cons b2 r2)))) :=
  pe_weak (L2.pe_andT ha hb) fun σ H Q ⟨ia, w, f, q⟩ => by
    have q' : Post F Wx σ ia w H (rD F.p) ((evE c a w).bind fun x w1 => (tr x w1).bind fun t w2 => if t then evA c (.cons b2 r2) w2 else .ok x w2) Q := q
    refine ⟨ia, w, f, q'.bind fun x w1 v H1 f1 l1 s1 r1 h1 => ?_⟩
    unfold tr at h1
    cases ht : truth (dr w1 x) with
    | none =>
      rw [ht] at h1
      exact h1.elim
    | some k =>
      rw [ht] at h1
      refine ⟨k, by rw [cx.hK]; exact truV_of ht (f1.dr (.inl r1)), ?_⟩
      cases k with
      | true => exact ⟨ia, w1, f1, h1⟩
      | false => exact Post.here h1 f1 r1
theorem s_orV (cx : Cxt F Wx c sc N ar cm X) {pos : Pos} {rest : List Expr} {b2 r2 : E} (ha : PE X l (tE F Wx c a)) (hb : PE X (.BoolOp .Or (r :: rest) pos) (tE F Wx c (.or (.cons b2 r2)))) : PE X (.BoolOp .Or (l :: r :: rest) pos) (tE F Wx c (.or (.cons a (.cons b2 r2)))) :=
  pe_weak (L2.pe_orT ha hb) fun σ H Q ⟨ia, w, f, q⟩ => by
    have q' : Post F Wx σ ia w H (rD F.p) ((evE c a w).bind fun x w1 => (tr x w1).bind fun t w2 => if t then .ok x w2 else evOr c (.cons b2 r2) w2) Q := q
    refine ⟨ia, w, f, q'.bind fun x w1 v H1 f1 l1 s1 r1 h1 => ?_⟩
    unfold tr at h1
    cases ht : truth (dr w1 x) with
    | none =>
      rw [ht] at h1
      exact h1.elim
    | some k =>
      rw [ht] at h1
      refine ⟨k, by rw [cx.hK]; exact truV_of ht (f1.dr (.inl r1)), ?_⟩
      cases k with
      | true => exact Post.here h1 f1 r1
      | false => exact ⟨ia, w1, f1, h1⟩
theorem s_one {pos : Pos} {o : BoolOp} (ha : PE X l (tE F Wx c a)) : PE X (.BoolOp o [l] pos) (tE F Wx c (.and (.cons a .nil))) := pe_weak (L2.pe_one ha) fun σ H Q ⟨ia, w, f, q⟩ => ⟨ia, w, f, q⟩
theorem s_one' {pos : Pos} {o : BoolOp} (ha : PE X l (tE F Wx c a)) : PE X (.BoolOp o [l] pos) (tE F Wx c (.or (.cons a .nil))) := pe_weak (L2.pe_one ha) fun σ H Q ⟨ia, w, f, q⟩ => ⟨ia, w, f, q⟩
theorem pw_weak {u u' : TT} (h : PW X e u) (k : ∀ σ H Q, u' σ H Q → u σ H Q) : PW X e u' := ⟨fun wh pins s σ H Q I q => h.run wh pins s σ H Q I (k σ H Q q)⟩
theorem w_one {pos : Pos} (ha : PT X l (tT F Wx c a)) : PW X (.BoolOp .And [l] pos) (tT F Wx c (.and (.cons a .nil))) := pw_weak (L2.pw_and1 ha) fun σ H Q ⟨ia, w, f, q⟩ => ⟨ia, w, f, q⟩
theorem w_one' {pos : Pos} (ha : PT X l (tT F Wx c a)) : PW X (.BoolOp .Or [l] pos) (tT F Wx c (.or (.cons a .nil))) := pw_weak (L2.pw_or1 ha) fun σ H Q ⟨ia, w, f, q⟩ => ⟨ia, w, f, q⟩
theorem tr_tr {x : D} {w : W} {k : Bool} (h : truth (dr w x) = some k) : tr x w = .ok k w := by
  unfold tr
  rw [h]
  rfl
theorem w_and {pos : Pos} {rest : List Expr} {b2 r2 : E} (ha : PT X l (tT F Wx c a)) (hb : PW X (.BoolOp .And (r :: rest) pos) (tT F Wx c (.and (.cons b2 r2)))) : PW X (.BoolOp .And (l :: r :: rest) pos) (tT F Wx c (.and (.cons a (.cons b2 r2)))) :=
  pw_weak (L2.pw_and ha hb) fun σ H Q ⟨ia, w, f, q⟩ => ⟨ia, w, f, by
    revert q
    show Post F Wx σ ia w H (rEq (α := Bool)) (((evE c a w).bind fun x w1 => (tr x w1).bind fun t w2 => if t then evA c (.cons b2 r2) w2 else .ok x w2).bind fun x w1 => tr x w1) Q → _
    cases he : evE c a w with
    | ok x w1 =>
      show Post F Wx σ ia w H (rEq (α := Bool)) (((tr x w1).bind fun t w2 => if t then evA c (.cons b2 r2) w2 else .ok x w2).bind fun x w1 => tr x w1) Q → Post F Wx σ ia w H (rEq (α := Bool)) (tr x w1) _
      cases ht : truth (dr w1 x) with
      | none =>
        unfold tr
        rw [ht]
        exact fun q => q
      | some k =>
        rw [tr_tr ht]
        intro q v H' f1 l1 s1 r1
        cases r1
        cases k with
        | true => exact ⟨ia, w1, f1, Post.base q l1 s1⟩
        | false =>
          have q2 : Post F Wx σ ia w H (rEq (α := Bool)) (tr x w1) Q := q
          rw [tr_tr ht] at q2
          exact q2 false H' f1 l1 s1 rfl
    | ex C fs w' => exact fun q => q
    | bad => exact fun q => q⟩
theorem w_or {pos : Pos} {rest : List Expr} {b2 r2 : E} (ha : PT X l (tT F Wx c a)) (hb : PW X (.BoolOp .Or (r :: rest) pos) (tT F Wx c (.or (.cons b2 r2)))) : PW X (.BoolOp .Or (l :: r :: rest) pos) (tT F Wx c (.or (.cons a (.cons b2 r2)))) :=
  pw_weak (L2.pw_or ha hb) fun σ H Q ⟨ia, w, f, q⟩ => ⟨ia, w, f, by
    revert q
    show Post F Wx σ ia w H (rEq (α := Bool)) (((evE c a w).bind fun x w1 => (tr x w1).bind fun t w2 => if t then .ok x w2 else evOr c (.cons b2 r2) w2).bind fun x w1 => tr x w1) Q → _
    cases he : evE c a w with
    | ok x w1 =>
      show Post F Wx σ ia w H (rEq (α := Bool)) (((tr x w1).bind fun t w2 => if t then .ok x w2 else evOr c (.cons b2 r2) w2).bind fun x w1 => tr x w1) Q → Post F Wx σ ia w H (rEq (α := Bool)) (tr x w1) _
      cases ht : truth (dr w1 x) with
      | none =>
        unfold tr
        rw [ht]
        exact fun q => q
      | some k =>
        rw [tr_tr ht]
        intro q v H' f1 l1 s1 r1
        cases r1
        cases k with
        | false => exact ⟨ia, w1, f1, Post.base q l1 s1⟩
        | true =>
          have q2 : Post F Wx σ ia w H (rEq (α := Bool)) (tr x w1) Q := q
          rw [tr_tr ht] at q2
          exact q2 true H' f1 l1 s1 rfl
    | ex C fs w' => exact fun q => q
    | bad => exact fun q => q⟩
theorem s_ife (cx : Cxt F Wx c sc N ar cm X) {pos : Pos} {t : E} {x : Expr} (ht : PT X x (tT F Wx c t)) (ha : PE X l (tE F Wx c a)) (hb : PE X r (tE F Wx c b)) : PE X (.IfExp x l r pos) (tE F Wx c (.ife t a b)) :=
  pe_weak (L2.pe_ifExp ht ha hb) fun σ H Q ⟨ia, w, f, q⟩ => ⟨ia, w, f, by
    revert q
    show Post F Wx σ ia w H (rD F.p) ((evE c t w).bind fun x w1 => (tr x w1).bind fun u w2 => if u then evE c a w2 else evE c b w2) Q → _
    cases evE c t w with
    | ok x w1 =>
      show Post F Wx σ ia w H (rD F.p) ((tr x w1).bind fun u w2 => if u then evE c a w2 else evE c b w2) Q → Post F Wx σ ia w H (rEq (α := Bool)) (tr x w1) _
      cases ht : truth (dr w1 x) with
      | none =>
        unfold tr
        rw [ht]
        exact fun q => q
      | some k =>
        rw [tr_tr ht]
        intro q v H' f1 l1 s1 r1
        cases r1
        cases k with
        | true => exact ⟨ia, w1, f1, Post.base q l1 s1⟩
        | false => exact ⟨ia, w1, f1, Post.base q l1 s1⟩
    | ex C fs w' => exact fun q => q
    | bad => exact fun q => q⟩
/-- a chain of two comparisons -/
theorem chain_of (cx : Cxt F Wx c sc N ar cm X) {o p : CmpOp} {σ : L2.St} {ia : List Addr} {w : W} {H : Hp} {Q : VK} (f : Fr F ia w σ H) (q : Post F Wx σ ia w H (rD F.p) (evE c (.cmp2 o p a b d) w) Q) : L2.tChain (cmpR X o) (cmpR X p) (tB F Wx c a) (tB F Wx c b) (tB F Wx c d) σ H Q := by
  have q' : Post F Wx σ ia w H (rD F.p) ((evE c a w).bind fun x w1 => (evE c b w1).bind fun y w2 => (opt (cmpop o (dr w2 x) (dr w2 y)) w2).bind fun t w3 =>
      if t then (evE c d w3).bind fun z w4 => (opt (cmpop p (dr w4 y) (dr w4 z)) w4).bind fun u w5 => .ok (.bl u) w5 else .ok (.bl false) w3) Q := q
  refine ⟨ia, w, f, q'.bind fun x w1 v H1 f1 l1 s1 r1 h1 => ⟨ia, w1, f1, h1.bind fun y w2 u H2 f2 l2 s2 r2 h2 => ?_⟩⟩
  have o1 : On ia ia (Mu F ia w1 σ) (Mu F ia w2 σ) H1 H2 := ⟨l2, fun b hb => .inr (.inl hb), fun b hb => .inl (s2 b hb), fun _ _ h => h⟩
  cases hz : cmpop o (dr w2 x) (dr w2 y) with
  | none =>
    rw [hz] at h2
    exact h2.elim
  | some z =>
    rw [hz] at h2
    refine cmpR_of cx.hK hz f2 (f2.dr (r1.on o1).b) (f2.dr r2.b) ⟨z, rfl, ?_⟩
    cases z with
    | false => exact Post.here h2 f2 rep_bl
    | true =>
      have h3 : Post F Wx σ ia w2 H2 (rD F.p) ((evE c d w2).bind fun z w4 => (opt (cmpop p (dr w4 y) (dr w4 z)) w4).bind fun u w5 => .ok (.bl u) w5) Q := h2
      refine ⟨ia, w2, f2, h3.bind fun z w4 vz H4 f4 l4 s4 r4 h4 => ?_⟩
      have o4 : On ia ia (Mu F ia w2 σ) (Mu F ia w4 σ) H2 H4 := ⟨l4, fun b hb => .inr (.inl hb), fun b hb => .inl (s4 b hb), fun _ _ h => h⟩
      exact s_cmpTail cx f4 (r2.on o4).b r4.b h4
theorem s_cmp2 (cx : Cxt F Wx c sc N ar cm X) {o p : CmpOp} {pos : Pos} {t : Expr} (ha : PE X l (tB F Wx c a)) (hb : PE X r (tB F Wx c b)) (hd : PE X t (tB F Wx c d)) (ht : head t = true) : PE X (.Compare l [o, p] [r, t] pos) (tE F Wx c (.cmp2 o p a b d)) :=
  pe_weak (L2.pe_chain (cmpR_ok cx.un o) (cmpR_ok cx.un p) ha hb hd (by cases t <;> first | rfl | cases ht)) fun σ H Q ⟨ia, w, f, q⟩ => chain_of cx f q
/-- a node whose value is always a truth value -/
def Blv (c : Ct) (m : E) : Prop := ∀ w d w', evE c m w = .ok d w' → ∃ k, d = .bl k
theorem blv_test (hb : Blv c m) {σ : L2.St} {ia : List Addr} {w : W} {H : Hp} {Q : Bool → Hp → Prop} (h : Post F Wx σ ia w H (rEq (α := Bool)) ((evE c m w).bind fun x w1 => tr x w1) Q) :
    Post F Wx σ ia w H (rD F.p) (evE c m w) (fun v H' => ∃ k, v = .bl k ∧ Q k H') := by
  revert h
  cases he : evE c m w with
  | ok d w' =>
    obtain ⟨k, rfl⟩ := hb w d w' he
    intro h v H' f1 l1 s1 r1
    have r1' : Rep F.p ia (Mu F ia w' σ) H' (.bl k) v := r1
    unfold Rep at r1'
    exact ⟨k, r1', h k H' f1 l1 s1 rfl⟩
  | ex C fs w' => exact fun h => h
  | bad => exact fun h => h
theorem R.bind_ok {α β : Type} {r : R α} {f : α → W → R β} {b : β} {w : W} (h : r.bind f = .ok b w) : ∃ a w1, r = .ok a w1 ∧ f a w1 = .ok b w := by
  cases r with
  | ok a w1 => exact ⟨a, w1, rfl, h⟩
  | ex C fs w1 => cases h
  | bad => cases h
theorem blv_cmp2 {o p : CmpOp} : Blv c (.cmp2 o p a b d) := fun w x w' h => by
  have h' : ((evE c a w).bind fun x w1 => (evE c b w1).bind fun y w2 => (opt (cmpop o (dr w2 x) (dr w2 y)) w2).bind fun t w3 =>
      if t then (evE c d w3).bind fun z w4 => (opt (cmpop p (dr w4 y) (dr w4 z)) w4).bind fun u w5 => .ok (.bl u) w5 else .ok (.bl false) w3) = .ok x w' := h
  obtain ⟨x1, w1, _, h1⟩ := R.bind_ok h'
  obtain ⟨x2, w2, _, h2⟩ := R.bind_ok h1
  obtain ⟨t, w3, _, h3⟩ := R.bind_ok h2
  cases t with
  | false =>
    cases h3
    exact ⟨_, rfl⟩
  | true =>
    have h3' : ((evE c d w3).bind fun z w4 => (opt (cmpop p (dr w4 x2) (dr w4 z)) w4).bind fun u w5 => .ok (.bl u) w5) = .ok x w' := h3
    obtain ⟨x4, w4, _, h4⟩ := R.bind_ok h3'
    obtain ⟨u, w5, _, h5⟩ := R.bind_ok h4
    cases h5
    exact ⟨_, rfl⟩
theorem s_cmp2T (cx : Cxt F Wx c sc N ar cm X) {o p : CmpOp} {pos : Pos} {t : Expr} (ha : PE X l (tB F Wx c a)) (hb : PE X r (tB F Wx c b)) (hd : PE X t (tB F Wx c d)) (ht : head t = true) : PT X (.Compare l [o, p] [r, t] pos) (tT F Wx c (.cmp2 o p a b d)) :=
  pt_weak (L2.pt_chain (cmpR_ok cx.un o) (cmpR_ok cx.un p) ha hb hd (by cases t <;> first | rfl | cases ht)) fun σ H Q ⟨ia, w, f, q⟩ => chain_of cx f (blv_test blv_cmp2 q)

/-! ### argument lists -/
theorem star_head {es : List Expr} {env : Env} (h : head e = true) : starEach (e :: es) env = (false, eval e env) :: starEach es env := by
  cases e <;> first | rfl | cases h
theorem s_nil : PA X [] (tEs F Wx c .nil) := pa_weak L2.pa_nil fun σ H Q ⟨ia, w, f, q⟩ => by
  have q' : Post F Wx σ ia w H (rDs F.p) (.ok [] w) Q := q
  exact q'.here f (by show Reps _ _ _ _ _ _; unfold Reps; rfl)
theorem s_cons {es : List Expr} (h : head e = true) (ha : PE X e (tE F Wx c a)) (hb : PA X es (tEs F Wx c b)) : PA X (e :: es) (tEs F Wx c (.cons a b)) :=
  pa_weak (L2.pa_cons ha hb (star_head h)) fun σ H Q ⟨ia, w, f, q⟩ => by
    have q' : Post F Wx σ ia w H (rDs F.p) ((evE c a w).bind fun x w1 => (evEs c b w1).bind fun xs w2 => .ok (x :: xs) w2) Q := q
    refine ⟨ia, w, f, q'.bind fun x w1 v H1 f1 l1 s1 r1 h1 => ⟨ia, w1, f1, h1.bind fun xs w2 vs H2 f2 l2 s2 r2 h2 => ?_⟩⟩
    have o1 : On ia ia (Mu F ia w1 σ) (Mu F ia w2 σ) H1 H2 := ⟨l2, fun b hb => .inr (.inl hb), fun b hb => .inl (s2 b hb), fun _ _ h => h⟩
    refine Post.here h2 f2 ?_
    show Reps _ _ _ _ _ _
    unfold Reps
    exact ⟨v, vs, rfl, Rep.on o1 x v r1, r2⟩
theorem lineL {n : Nat} : True := trivial
/-- tuples, lists -/
theorem s_tup {es : List Expr} {k : Nat} {pos : Pos} {as : E} (h : PA X es (tEs F Wx c as)) (hz : es.length ≤ 1000) (hl : ∀ w ds w', evEs c as w = .ok ds w' → ds.length = es.length) : PE X (.Tuple es k pos) (tE F Wx c (.tupD as)) :=
  pe_weak (L2.pe_tup h) fun σ H Q ⟨ia, w, f, q⟩ => by
    have q' : Post F Wx σ ia w H (rD F.p) ((evEs c as w).bind fun ds w1 => .ok (.tup ds) w1) Q := q
    refine ⟨ia, w, f, ?_⟩
    revert q'
    cases he : evEs c as w with
    | ok ds w1 =>
      intro q' vs H1 f1 l1 s1 r1
      have r1' : Reps F.p ia (Mu F ia w1 σ) H1 ds vs := r1
      refine ⟨by rw [r1'.length, hl w ds w1 he, sizeLine_eq]; omega, Then.tup (fun v H' f2 l2 r2 => ?_) f1 r1'⟩
      exact q' v H' f2 (l1.trans l2) s1 r2
    | ex C fs w' => exact fun q => q
    | bad => exact fun q => q
theorem s_lst {es : List Expr} {pos : Pos} {as : E} (h : PA X es (tEs F Wx c as)) (hz : es.length ≤ 1000) (hl : ∀ w ds w', evEs c as w = .ok ds w' → ds.length = es.length) : PE X (.List es pos) (tE F Wx c (.lstD as)) :=
  pe_weak (L2.pe_lst h) fun σ H Q ⟨ia, w, f, q⟩ => by
    have q' : Post F Wx σ ia w H (rD F.p) ((evEs c as w).bind fun ds w1 => .ok (.lst ds) w1) Q := q
    refine ⟨ia, w, f, ?_⟩
    revert q'
    cases he : evEs c as w with
    | ok ds w1 =>
      intro q' vs H1 f1 l1 s1 r1
      have r1' : Reps F.p ia (Mu F ia w1 σ) H1 ds vs := r1
      refine ⟨by rw [r1'.length, hl w ds w1 he, sizeLine_eq]; omega, Then.lst (fun v H' f2 l2 r2 => ?_) f1 r1'⟩
      exact q' v H' f2 (l1.trans l2) s1 r2
    | ex C fs w' => exact fun q => q
    | bad => exact fun q => q
end
end RX

/-! F9: calls, built-ins, items. -/
namespace RX
open PySem PySem.Spec PyProof.Rows
open L2 (Hp V HO VK XK WX upd Cx OpR R2 PE PT PA TE TA TT Gl Vis Inv EP PW CallR)

theorem Fr.called {F : Sf} {ia : List Addr} {w : W} {σ : L2.St} {H H' : Hp} {cs : List D} (f : Fr F ia w σ H) (l : Le ia H H') (t : LamX.Tabs F.T H') (ck : CellsOk F.p ia (Mu F ia w σ) H' cs) : Fr F ia { w with cs := cs } σ H' := by
  have o := f.on l
  refine ⟨⟨fun b u e n t => l.keep b u (f.le.keep b u e n t) (fun z => ?_) t, fun b xs e => l.tups b xs (f.le.tups b xs e), fun b u x e => l.frzs b u x (f.le.frzs b u x e), fun b h => f.le.dom b (l.dom b h)⟩, t, f.io, f.o0, f.pre, f.new, f.ind, ck.1, ck.2.2, fun i d h => ?_, fun i d h => ?_, f.uniq, f.len, f.cnt⟩
  · rcases f.new b z with q | q
    · exact n q
    · exact Nt.not e t q
  · obtain ⟨v, e, r⟩ := f.slv i d h
    exact ⟨v, e, r.on o⟩
  · obtain ⟨a, e, c, n, m⟩ := f.slo i d h
    refine ⟨a, e, c.on o fun u hu => ?_, n, m⟩
    obtain ⟨u', hu', t⟩ := c.some_
    rw [hu] at hu'
    cases hu'
    exact l.keep a u hu m t
theorem Fr.cok {F : Sf} {ia : List Addr} {w : W} {σ : L2.St} {H : Hp} (f : Fr F ia w σ H) : CellsOk F.p ia (Mu F ia w σ) H w.cs := ⟨f.ilen, f.ind, f.cells⟩
theorem gn_ok {sc : Scope} {f : String} {x : Str} (h : gnB sc f x = true) : x = Str.ofString f ∧ sc.names.lookup x = some .globalImplicit ∧ (x == ("__debug__" : Str)) = false ∧ x ≠ "__name__" := by
  unfold gnB at h
  simp only [Bool.and_eq_true, decide_eq_true_eq] at h
  obtain ⟨h1, h2, h3⟩ := h
  unfold okN at h3
  simp only [Bool.and_eq_true, Bool.not_eq_true'] at h3
  exact ⟨h1, glB_ok h2, h3.1.1, fun z => by
    have := h3.2
    rw [z] at this
    simp at this⟩
section
variable {F : Sf} {Wx : WX} {c : Ct} {sc : Scope} {N : List Str} {ar : String → Nat → Bool} {cm : Bool} {X : Cx} {m a b d : E} {e l r : Expr}
theorem cx_gl (cx : Cxt F Wx c sc N ar cm X) {x : Str} (h : sc.names.lookup x = some .globalImplicit) : Gl X x := by
  show X.env.scope.names.lookup x = _
  rw [cx.hsc]
  exact h
theorem tail_call {σ : L2.St} {ia : List Addr} {w1 : W} {H1 : Hp} {Q : VK} {ds : List D} {vs : List V} {rc : CR} (f1 : Fr F ia w1 σ H1) (r1 : Reps F.p ia (Mu F ia w1 σ) H1 ds vs)
    (h1 : Post F Wx σ ia w1 H1 (rD F.p) (lift rc w1) Q) : PreC F.p F.T vs ds w1.cs H1 rc Q (L2.WE Wx σ) := by
  refine ⟨ia, Mu F ia w1 σ, fun a h => .inr (.inl h), f1.mu, f1.tabs, f1.cok, r1, ?_⟩
  cases rc with
  | ok d fr cs => exact fun v H' l t ck rp nw => h1 v H' (f1.called l t ck) l (fun _ z => z) rp
  | ex C fs cs => exact fun cls dd H' l t ck xr => h1 cls dd H' (f1.called l t ck) l (fun _ z => z) xr
  | bad => exact h1
theorem s_call (cx : Cxt F Wx c sc N ar cm X) {f : String} {x : Str} {q p : Pos} {es : List Expr} {as : E} (hx : gnB sc f x = true) (hcm : cm = true) (har : (decide (es.length < 900) && ar f es.length) = true) (h : PA X es (tEs F Wx c as)) (hs : ∀ e ∈ es, head e = true)
    (hl : ∀ w ds w', evEs c as w = .ok ds w' → ds.length = es.length) (hnil : es = [] → as = .nil) : PE X (.Call (.Name x q) es [] p) (tE F Wx c (.call f as)) := by
  obtain ⟨rfl, g1, g2, g3⟩ := gn_ok hx
  obtain ⟨fa, fd, ps, k, sp, dvs, dvals, hm, hk, hr, FN, hb, hd, hsp⟩ := cx.call hcm f es.length (of_decide_eq_true (Bool.and_eq_true_iff.mp har).1) (Bool.and_eq_true_iff.mp har).2
  have key : ∀ σ H Q, tE F Wx c (.call f as) σ H Q → tEs F Wx c as σ H fun vs H1 => sp (vs ++ dvs) H1 Q (L2.WE Wx σ) := fun σ H Q ⟨ia, w, fr, q⟩ => by
    have q' : Post F Wx σ ia w H (rD F.p) ((evEs c as w).bind fun ds w1 => lift (c.call f ds w1.cs) w1) Q := q
    refine ⟨ia, w, fr, ?_⟩
    revert q'
    cases he : evEs c as w with
    | ok ds w1 =>
      intro q' vs H1 f1 l1 s1 r1
      exact hsp ds w1.cs vs H1 Q _ (hl w ds w1 he) (tail_call f1 r1 (Post.base q' l1 s1))
    | ex C fs w' => exact fun q => q
    | bad => exact fun q => q
  cases es with
  | nil =>
    have ea : as = .nil := hnil rfl
    subst ea
    refine ⟨fun pins s σ H Q I ⟨ia, w, fr, pq⟩ => ?_⟩
    refine wpAny_Call_Name_kw (L2.ld_glob I (cx_gl cx g1) hm ?_ g2)
    have pq' : Post F Wx σ ia w H (rD F.p) (lift (c.call f [] w.cs) w) Q := pq
    refine PySem.W.callWith_K0 I.kIn hk (L2.run_fnSD (E := L2.WE Wx) (us := []) (vs := []) FN hr hb hd (L2.passAt cx.tk σ) I .nil ?_)
    exact hsp [] w.cs [] H Q _ rfl (tail_call fr (by unfold Reps; rfl) pq')
  | cons e es =>
    exact pe_weak (L2.pe_callSD (E := L2.WE Wx) FN hr (cx_gl cx g1) hm hk hb hd (fun σ => L2.passAt cx.tk σ) h g2 (star_head (hs e List.mem_cons_self)) (by
      have : ∀ l : List Expr, (∀ e ∈ l, head e = true) → (backTo p (starEach l X.env)).any (·.1) = false := fun l => by
        induction l with
        | nil => intro _; rfl
        | cons y ys ih =>
          intro hy
          rw [star_head (hy y List.mem_cons_self)]
          exact ih fun z hz => hy z (List.mem_cons_of_mem _ hz)
      exact this es fun z hz => hs z (List.mem_cons_of_mem _ hz))) key

/-! ### built-ins of one value -/
theorem one_arg (cx : Cxt F Wx c sc N ar cm X) {g : D → Option D} {σ : L2.St} {ia : List Addr} {w : W} {H : Hp} {Q : VK} {K : V → Hp → Prop} (f : Fr F ia w σ H) (q : Post F Wx σ ia w H (rD F.p) ((evE c a w).bind fun x w1 => opt (g (dr w1 x)) w1) Q)
    (k : ∀ x z w1 v H1, g x = some z → Fr F ia w1 σ H1 → RepB F.p ia (Mu F ia w1 σ) H1 x v → Then F σ ia w1 H1 z Q → K v H1) : tB F Wx c a σ H K :=
  ⟨ia, w, f, q.bind fun x w1 v H1 f1 l1 s1 r1 h1 => by
    cases hz : g (dr w1 x) with
    | none =>
      rw [hz] at h1
      exact h1.elim
    | some z =>
      rw [hz] at h1
      exact k _ z w1 v H1 hz f1 (f1.dr r1.b) fun u H' f2 l2 r2 => h1 u H' f2 l2 (fun _ z => z) r2⟩
def b1R (K : PySem.W.Frag) : B1 → List V → Hp → VK → Prop
  | .len => fun xs H Q => ∃ x n, xs = [x] ∧ L2.LenV K x H n ∧ Q (.int n) H
  | .abs => fun xs H Q => ∃ i, xs = [.int i] ∧ Q (.int (if i < 0 then -i else i)) H
  | .int => fun xs H Q => (∃ i, xs = [.int i] ∧ Q (.int i) H) ∨ ∃ k, xs = [.bl k] ∧ Q (.int (if k then 1 else 0)) H
  | .bool => fun xs H Q => (∃ i, xs = [.int i] ∧ Q (.bl (i != 0)) H) ∨ ∃ k, xs = [.bl k] ∧ Q (.bl k) H
  | .list => fun xs H Q => ∃ p ys, xs = [.ref p] ∧ (L2.SqL K H p ys ∨ L2.SqT K H p ys ∨ ∃ kvs, H p = some (.dK kvs) ∧ ys = kvs.map fun kv => L2.kV kv.1) ∧ ∀ l, H l = none → Q (.ref l) (upd H l (.lst ys))
  | .tuple => fun xs H Q => ∃ p ys, xs = [.ref p] ∧ ((L2.SqL K H p ys ∧ ∀ l, H l = none → Q (.ref l) (upd H l (.tup ys))) ∨ (L2.SqT K H p ys ∧ Q (.ref p) H))
  | _ => fun _ _ _ => False
theorem keys_of {p : Pm} {ia : List Addr} {O : Addr → Prop} {H : Hp} : ∀ {kvs : List (Ky × D)} {kws : List (L2.Key × V)}, RepKs p ia O H kvs kws → Reps p ia O H (kvs.map fun q => keyD q.1) (kws.map fun q => L2.kV q.1)
  | [], kws, h => by
    unfold RepKs at h
    rw [h]
    unfold Reps
    rfl
  | (k, d) :: r, kws, h => by
    unfold RepKs at h
    obtain ⟨v, s, e, _, h⟩ := h
    rw [e]
    show Reps p ia O H (keyD k :: r.map fun q => keyD q.1) (L2.kV (kyV k) :: s.map fun q => L2.kV q.1)
    unfold Reps
    refine ⟨_, _, rfl, ?_, keys_of h⟩
    cases k with
    | inl i =>
      show Rep p ia O H (.int i) (.int i)
      unfold Rep
      rfl
    | inr x =>
      show Rep p ia O H (.str x) (.str (strOf x))
      unfold Rep
      rfl
theorem Then.same {σ : L2.St} {ia : List Addr} {w : W} {H : Hp} {Q : VK} {d : D} {v : V} (t : Then F σ ia w H d Q) (f : Fr F ia w σ H) (r : Rep F.p ia (Mu F ia w σ) H d v) : Q v H := t v H f Le.refl r
theorem b1R_of {f : B1} {K : PySem.W.Frag} {n : String} (hn : bltOf f = some n) {d z : D} {σ : L2.St} {ia : List Addr} {w : W} {H : Hp} {Q : VK} {v : V} (hK : K = F.p.K) (hz : b1 f d = some z) (fr : Fr F ia w σ H) (r : RepB F.p ia (Mu F ia w σ) H d v) (t : ThenN F σ ia w H z Q) : b1R K f [v] H Q := by
  subst hK
  cases f with
  | len =>
    cases d with
    | str x =>
      unfold b1 at hz
      dsimp only at hz
      split at hz
      · rename_i hl
        cases hz
        rw [r.str_]
        refine ⟨_, x.length, rfl, ⟨by rw [strOf_length]; exact line_of hl, (strOf_length x).symm⟩, t.int fr⟩
      · cases hz
    | lst xs =>
      cases hz
      obtain ⟨a, vs, rfl, h1, h2⟩ := r.lst
      exact ⟨_, xs.length, rfl, .inl ⟨vs, L2.SqL.of h1, h2.length.symm⟩, t.int fr⟩
    | frz xs =>
      cases hz
      obtain ⟨a, vs, rfl, h1, h2⟩ := r.frz_
      exact ⟨_, xs.length, rfl, .inl ⟨vs, h1.sq, h2.length.symm⟩, t.int fr⟩
    | tup xs =>
      cases hz
      obtain ⟨a, vs, rfl, h1, h2⟩ := r.tup_
      exact ⟨_, xs.length, rfl, .inr ⟨vs, h1, h2.length.symm⟩, t.int fr⟩
    | _ => cases hz
  | abs =>
    cases d with
    | int i =>
      cases hz
      rw [r.int_]
      exact ⟨i, rfl, t.int fr⟩
    | _ => cases hz
  | int =>
    cases d with
    | int i =>
      cases hz
      rw [r.int_]
      exact .inl ⟨i, rfl, t.int fr⟩
    | bl k =>
      cases hz
      rw [r.bl_]
      exact .inr ⟨k, rfl, t.int fr⟩
    | _ => cases hz
  | bool =>
    cases d with
    | int i =>
      cases hz
      rw [r.int_]
      exact .inl ⟨i, rfl, t.bl fr⟩
    | bl k =>
      cases hz
      rw [r.bl_]
      exact .inr ⟨k, rfl, t.bl fr⟩
    | _ => cases hz
  | list =>
    cases d with
    | lst xs =>
      cases hz
      obtain ⟨a, vs, rfl, h1, h2⟩ := r.lst
      exact ⟨a, vs, rfl, .inl (L2.SqL.of h1), t.lst fr h2⟩
    | frz xs =>
      cases hz
      obtain ⟨a, vs, rfl, h1, h2⟩ := r.frz_
      exact ⟨a, vs, rfl, .inl h1.sq, t.lst fr h2⟩
    | tup xs =>
      cases hz
      obtain ⟨a, vs, rfl, h1, h2⟩ := r.tup_
      exact ⟨a, vs, rfl, .inr (.inl h1), t.lst fr h2⟩
    | dic kvs =>
      cases hz
      obtain ⟨a, kws, rfl, h1, h2⟩ := r.dic
      exact ⟨a, _, rfl, .inr (.inr ⟨kws, h1, rfl⟩), t.lst fr (keys_of h2)⟩
    | _ => cases hz
  | tuple =>
    cases d with
    | lst xs =>
      cases hz
      obtain ⟨a, vs, rfl, h1, h2⟩ := r.lst
      exact ⟨a, vs, rfl, .inl ⟨L2.SqL.of h1, t.tup fr h2⟩⟩
    | tup xs =>
      cases hz
      obtain ⟨a, vs, rfl, h1, h2⟩ := r.tup_
      refine ⟨a, vs, rfl, .inr ⟨h1, t.same fr rfl ?_⟩⟩
      unfold Rep
      exact ⟨a, vs, rfl, h1, h2⟩
    | _ => cases hz
  | _ => cases hn
def b1T : B1 → Bool
  | .int | .list | .tuple | .bool => true
  | _ => false
theorem b1R_okB {f : B1} {n : String} (hn : bltOf f = some n) (ht : b1T f = false) : CallR X (.builtin n) (b1R X.K f) ∧ bootBuiltins (Str.ofString n) = some (.builtin n) := by
  cases f with
  | len =>
    cases hn
    exact ⟨L2.call_len, by decide +kernel⟩
  | abs =>
    cases hn
    exact ⟨L2.call_abs, by decide +kernel⟩
  | int => cases ht
  | list => cases ht
  | tuple => cases ht
  | bool => cases ht
  | _ => cases hn
theorem b1R_okT {f : B1} {n : String} (hn : bltOf f = some n) (ht : b1T f = true) (hc : f = .list → X.calm = true) : CallR X (.type n) (b1R X.K f) ∧ bootBuiltins (Str.ofString n) = some (.type n) := by
  cases f with
  | int =>
    cases hn
    exact ⟨L2.call_int1, by decide +kernel⟩
  | bool =>
    cases hn
    exact ⟨L2.call_bool1, by decide +kernel⟩
  | tuple =>
    cases hn
    exact ⟨L2.call_tuple_of, by decide +kernel⟩
  | list =>
    cases hn
    refine ⟨fun pins s σ H xs us Q I r h => ?_, by decide +kernel⟩
    obtain ⟨p, ys, e, h1, h2⟩ := h
    rcases h1 with h1 | h1 | ⟨kvs, h1, rfl⟩
    · exact L2.call_list_of pins s σ H xs us Q I r ⟨p, ys, e, .inl h1, h2⟩
    · exact L2.call_list_of pins s σ H xs us Q I r ⟨p, ys, e, .inr h1, h2⟩
    · exact L2.call_list_dK (hc rfl) pins s σ H xs us Q I r ⟨p, kvs, e, h1, h2⟩
  | _ => cases ht
theorem blt_mem {f : B1} {n : String} (hn : bltOf f = some n) : n ∈ bltNames := by
  cases f with
  | len | abs | int | list | tuple | bool =>
    cases hn
    decide
  | _ => cases hn
/-- one argument, by a built-in's rule -/
theorem pa_one {t : TE} (h : PE X e t) (hh : head e = true) : PA X [e] (L2.tCons t L2.tNil) := L2.pa_cons h L2.pa_nil (star_head hh)
theorem s_bu (cx : Cxt F Wx c sc N ar cm X) {f : B1} {n : String} {x : Str} {q p : Pos} (hn : bltOf f = some n) (hx : gnB sc n x = true) (hcm : f = .list → cm = true) (ha : PE X l (tB F Wx c a)) (hh : head l = true) : PE X (.Call (.Name x q) [l] [] p) (tE F Wx c (.bu f a)) := by
  obtain ⟨rfl, g1, g2, g3⟩ := gn_ok hx
  have key : ∀ σ H Q, tE F Wx c (.bu f a) σ H Q → L2.tCB (b1R X.K f) (L2.tCons (tB F Wx c a) L2.tNil) σ H Q := fun σ H Q ⟨ia, w, fr, q⟩ =>
    one_arg cx (g := b1 f) fr q fun d z w1 v H1 hz f1 r1 t => b1R_of hn cx.hK hz f1 r1 t.n
  cases ht : b1T f with
  | false =>
    obtain ⟨h1, h2⟩ := b1R_okB (X := X) hn ht
    exact pe_weak (L2.pe_callB h1 (cx_gl cx g1) (cx.blt n (blt_mem hn)) h2 (pa_one ha hh) g3 g2 (star_head hh) rfl) key
  | true =>
    obtain ⟨h1, h2⟩ := b1R_okT (X := X) hn ht fun e => cx.calm (hcm e)
    exact pe_weak (L2.pe_callTy h1 (cx_gl cx g1) (cx.blt n (blt_mem hn)) h2 (pa_one ha hh) g3 g2 (star_head hh) rfl) key
theorem attr_base {env : Env} {x : Str} (h : superCall l = false) : attributeBase l x env (eval l env) = eval l env := by
  unfold attributeBase
  split
  · cases h
  · rfl
theorem s_bits (cx : Cxt F Wx c sc N ar cm X) {q p : Pos} (ha : PE X l (tB F Wx c a)) (hp : q.endLine = p.line) (hs : superCall l = false) : PE X (.Call (.Attribute l "bit_length" q) [] [] p) (tE F Wx c (.bu .bitlen a)) :=
  pe_weak (L2.pe_bits ha (attr_base hs) (by rw [hp]; simp)) fun σ H Q ⟨ia, w, fr, q⟩ => one_arg cx (g := b1 .bitlen) fr q fun d z w1 v H1 hz f1 r1 t => by
    cases d with
    | int i =>
      cases hz
      exact ⟨i, r1.int_, t.int f1⟩
    | _ => cases hz
/-! ### min, max -/
theorem s_bb (cx : Cxt F Wx c sc N ar cm X) {f : B2} {n : String} {x : Str} {q p : Pos} (hn : b2Of f = some n) (hx : gnB sc n x = true) (hcm : cm = true) (ha : PE X l (tE F Wx c a)) (hb : PE X r (tE F Wx c b)) (h1 : head l = true) (h2 : head r = true) : PE X (.Call (.Name x q) [l, r] [] p) (tE F Wx c (.bb f a b)) := by
  obtain ⟨rfl, g1, g2, g3⟩ := gn_ok hx
  have pa : PA X [l, r] (L2.tCons (tE F Wx c a) (L2.tCons (tE F Wx c b) L2.tNil)) := L2.pa_cons ha (pa_one hb h2) (star_head h1)
  have st : (backTo p (starEach [r] X.env)).any (·.1) = false := by
    rw [star_head h2]
    rfl
  have key : ∀ (g : Int → Int → Int) (hg : ∀ i j, b2 f (.int i) (.int j) = some (.int (g i j))) (ho : ∀ d e z, b2 f d e = some z → ∃ i j, d = .int i ∧ e = .int j), ∀ σ H Q, tE F Wx c (.bb f a b) σ H Q →
      L2.tCB (fun xs H Q => ∃ i j, xs = [.int i, .int j] ∧ Q (.int (g i j)) H) (L2.tCons (tE F Wx c a) (L2.tCons (tE F Wx c b) L2.tNil)) σ H Q := fun g hg ho σ H Q ⟨ia, w, fr, q⟩ => by
    have q' : Post F Wx σ ia w H (rD F.p) ((evE c a w).bind fun x w1 => (evE c b w1).bind fun y w2 => opt (b2 f (dr w2 x) (dr w2 y)) w2) Q := q
    refine ⟨ia, w, fr, q'.bind fun x w1 v H1 f1 l1 s1 r1 h1 => ⟨ia, w1, f1, h1.bind fun y w2 u H2 f2 l2 s2 r2 h2 => ?_⟩⟩
    have o1 : On ia ia (Mu F ia w1 σ) (Mu F ia w2 σ) H1 H2 := ⟨l2, fun b hb => .inr (.inl hb), fun b hb => .inl (s2 b hb), fun _ _ h => h⟩
    cases hz : b2 f (dr w2 x) (dr w2 y) with
    | none =>
      rw [hz] at h2
      exact h2.elim
    | some z =>
      rw [hz] at h2
      obtain ⟨i, j, ei, ej⟩ := ho _ _ _ hz
      rw [ei, ej, hg] at hz
      cases hz
      have rx := f2.dr (.inl (Rep.on o1 x v r1))
      have ry := f2.dr (.inl r2)
      rw [ei] at rx
      rw [ej] at ry
      exact ⟨i, j, by rw [rx.int_, ry.int_], Post.here h2 f2 (by show Rep _ _ _ _ _ _; unfold Rep; rfl)⟩
  have oo : ∀ d e z, b2 f d e = some z → ∃ i j, d = .int i ∧ e = .int j := fun d e z h => by
    cases f with
    | min =>
      cases d with
      | int i =>
        cases e with
        | int j => exact ⟨i, j, rfl, rfl⟩
        | _ => cases h
      | _ => cases e <;> cases h
    | max =>
      cases d with
      | int i =>
        cases e with
        | int j => exact ⟨i, j, rfl, rfl⟩
        | _ => cases h
      | _ => cases e <;> cases h
    | _ => cases hn
  cases f with
  | min =>
    cases hn
    exact pe_weak (L2.pe_callB (L2.call_min2 (cx.calm hcm)) (cx_gl cx g1) (cx.blt "min" (by decide)) (by decide +kernel) pa g3 g2 (star_head h1) st) (key (fun i j => if j < i then j else i) (fun _ _ => rfl) oo)
  | max =>
    cases hn
    exact pe_weak (L2.pe_callB (L2.call_max2 (cx.calm hcm)) (cx_gl cx g1) (cx.blt "max" (by decide)) (by decide +kernel) pa g3 g2 (star_head h1) st) (key (fun i j => if j > i then j else i) (fun _ _ => rfl) oo)
  | _ => cases hn
end
end RX

/-! F10: isinstance, items. -/
namespace RX
open PySem PySem.Spec PyProof.Rows
open L2 (Hp V HO VK XK WX upd Cx OpR R2 PE PT PA TE TA TT Gl Vis Inv EP PW CallR IxR)

def tyOf : D → Option String
  | .non => some "NoneType"
  | .bl _ => some "bool"
  | .int _ => some "int"
  | .str _ => some "str"
  | .tup _ => some "tuple"
  | .lst _ => some "list"
  | .dic _ => some "dict"
  | _ => none
theorem tyX_of {p : Pm} {ia : List Addr} {O : Addr → Prop} {H : Hp} {d : D} {v : V} {t : String} (h : tyOf d = some t) (r : RepB p ia O H d v) : L2.TyX p.K H v (.type t) ∧ t ∈ tyTs := by
  cases d with
  | non =>
    cases h
    rw [r.non_]
    exact ⟨.base .non, by decide⟩
  | bl b =>
    cases h
    rw [r.bl_]
    exact ⟨.base (.bl _), by decide⟩
  | int b =>
    cases h
    rw [r.int_]
    exact ⟨.base (.int _), by decide⟩
  | str b =>
    cases h
    rw [r.str_]
    exact ⟨.base (.str _), by decide⟩
  | tup b =>
    cases h
    obtain ⟨a, vs, rfl, h1, _⟩ := r.tup_
    refine ⟨?_, by decide⟩
    rcases h1 with (h1 | ⟨o, h1⟩) | ⟨o, its, n, h1, h2, _⟩
    · exact .base (.tup h1)
    · exact .fTuple h1
    · exact .kTuple h1 h2
  | lst b =>
    cases h
    obtain ⟨a, vs, rfl, h1, _⟩ := r.lst
    exact ⟨.base (.lst h1), by decide⟩
  | dic b =>
    cases h
    obtain ⟨a, vs, rfl, h1, _⟩ := r.dic
    exact ⟨.base (.dK h1), by decide⟩
  | _ => cases h
theorem kitB_all : ∀ t ∈ tyTs, ∀ n ∈ ["int", "bool", "str", "list", "tuple", "dict", "ValueError"], L2.kitB t n = some (decide (t = n) || (decide (t = "bool") && decide (n = "int"))) := by decide +kernel
def CnOk (ar : String → Nat → Bool) : Cn → Prop
  | .ty n => n ∈ tyNames
  | .cl n => ar n 999 = true
theorem kit_of {X : Cx} {d : D} {t : String} {cn : Cn} {b : Bool} {ar : String → Nat → Bool} (hk : ∀ C, ar C 999 = true → ∃ Ca, X.mg (Str.ofString C) = some (.ref Ca) ∧ ∀ t ∈ tyTs, PySem.W.kitOne X.K (.type t) (.ref Ca) = some false)
    (h : tyOf d = some t) (ht : t ∈ tyTs) (hi : isInst d cn = some b) (hc : CnOk ar cn) : ∃ v u, CnV X cn v ∧ L2.ClsV v u ∧ PySem.W.kitOne X.K (.type t) u = some b := by
  cases cn with
  | ty n =>
    refine ⟨.ty n, .type n, rfl, .ty n, L2.kit_ty ?_⟩
    rw [kitB_all t ht n hc]
    unfold isInst at hi
    cases d with
    | non =>
      cases h
      cases hi
      have hc' : n ∈ tyNames := hc
      revert hc'
      unfold tyNames
      simp only [List.mem_cons, List.mem_nil_iff, or_false]
      rintro (rfl | rfl | rfl | rfl | rfl | rfl | rfl) <;> rfl
    | bl x =>
      cases h
      cases hi
      have hc' : n ∈ tyNames := hc
      revert hc'
      unfold tyNames
      simp only [List.mem_cons, List.mem_nil_iff, or_false]
      rintro (rfl | rfl | rfl | rfl | rfl | rfl | rfl) <;> rfl
    | int x =>
      cases h
      cases hi
      have hc' : n ∈ tyNames := hc
      revert hc'
      unfold tyNames
      simp only [List.mem_cons, List.mem_nil_iff, or_false]
      rintro (rfl | rfl | rfl | rfl | rfl | rfl | rfl) <;> rfl
    | str x =>
      cases h
      cases hi
      have hc' : n ∈ tyNames := hc
      revert hc'
      unfold tyNames
      simp only [List.mem_cons, List.mem_nil_iff, or_false]
      rintro (rfl | rfl | rfl | rfl | rfl | rfl | rfl) <;> rfl
    | tup x =>
      cases h
      cases hi
      have hc' : n ∈ tyNames := hc
      revert hc'
      unfold tyNames
      simp only [List.mem_cons, List.mem_nil_iff, or_false]
      rintro (rfl | rfl | rfl | rfl | rfl | rfl | rfl) <;> rfl
    | lst x =>
      cases h
      cases hi
      have hc' : n ∈ tyNames := hc
      revert hc'
      unfold tyNames
      simp only [List.mem_cons, List.mem_nil_iff, or_false]
      rintro (rfl | rfl | rfl | rfl | rfl | rfl | rfl) <;> rfl
    | dic x =>
      cases h
      cases hi
      have hc' : n ∈ tyNames := hc
      revert hc'
      unfold tyNames
      simp only [List.mem_cons, List.mem_nil_iff, or_false]
      rintro (rfl | rfl | rfl | rfl | rfl | rfl | rfl) <;> rfl
    | _ => cases h
  | cl n =>
    obtain ⟨Ca, h1, h2⟩ := hk n hc
    have eb : b = false := by
      cases d <;> first | (cases h; done) | (cases hi; rfl)
    subst eb
    exact ⟨.ref Ca, .ref Ca, ⟨Ca, h1, rfl⟩, .own Ca, h2 t ht⟩
section
variable {F : Sf} {Wx : WX} {c : Ct} {sc : Scope} {N : List Str} {ar : String → Nat → Bool} {cm : Bool} {X : Cx} {m a b d : E} {e l r : Expr}
theorem cn_val (cx : Cxt F Wx c sc N ar cm X) {cn : Cn} {x : Str} {p : Pos} (h : cn1 ar sc cn x = true) : ∃ v, CnV X cn v ∧ PE X (.Name x p) (L2.tC v) ∧ CnOk ar cn := by
  cases cn with
  | ty n =>
    unfold cn1 at h
    obtain ⟨h1, h2⟩ := Bool.and_eq_true_iff.mp h
    obtain ⟨rfl, g1, g2, g3⟩ := gn_ok h1
    have hm : n ∈ tyNames := of_decide_eq_true h2
    have hb : bootBuiltins (Str.ofString n) = some (.type n) := by
      revert hm
      unfold tyNames
      simp only [List.mem_cons, List.mem_nil_iff, or_false]
      rintro (rfl | rfl | rfl | rfl | rfl | rfl | rfl) <;> decide +kernel
    have hl : n ∈ bltNames := by
      revert hm
      unfold tyNames
      simp only [List.mem_cons, List.mem_nil_iff, or_false]
      rintro (rfl | rfl | rfl | rfl | rfl | rfl | rfl) <;> decide
    exact ⟨.ty n, rfl, L2.pe_bltn (cx_gl cx g1) (cx.blt n hl) hb rfl g3 g2, hm⟩
  | cl n =>
    unfold cn1 at h
    obtain ⟨h1, h2⟩ := Bool.and_eq_true_iff.mp h
    obtain ⟨rfl, g1, g2, g3⟩ := gn_ok h1
    obtain ⟨Ca, h3, _⟩ := cx.kcl n h2
    exact ⟨.ref Ca, ⟨Ca, h3, rfl⟩, L2.pe_glob (cx_gl cx g1) h3 rfl g2, h2⟩
theorem cnV_uniq {cn : Cn} {v u : V} (h : CnV X cn v) (g : CnV X cn u) : v = u := by
  cases cn with
  | ty n =>
    have h' : v = .ty n := h
    have g' : u = .ty n := g
    rw [h', g']
  | cl n =>
    obtain ⟨C, h1, h2⟩ := h
    obtain ⟨C', g1, g2⟩ := g
    rw [h1] at g1
    cases g1
    rw [h2, g2]
theorem ty_or_exc {d : D} {cn : Cn} {b : Bool} (h : isInst d cn = some b) : (∃ t, tyOf d = some t) ∨ ∃ C fs, d = .exc C fs := by
  cases d with
  | exc C fs => exact .inr ⟨C, fs, rfl⟩
  | non => exact .inl ⟨_, rfl⟩
  | bl _ => exact .inl ⟨_, rfl⟩
  | int _ => exact .inl ⟨_, rfl⟩
  | str _ => exact .inl ⟨_, rfl⟩
  | tup _ => exact .inl ⟨_, rfl⟩
  | lst _ => exact .inl ⟨_, rfl⟩
  | dic _ => exact .inl ⟨_, rfl⟩
  | frz _ => cases cn <;> cases h
  | obj _ _ => cases cn <;> cases h
  | ref _ => cases cn <;> cases h
  | fn _ => cases cn <;> cases h
/-- isinstance(x, C) -/
theorem s_isi1 (cx : Cxt F Wx c sc N ar cm X) {cn : Cn} {x y : Str} {q p p2 : Pos} (hx : gnB sc "isinstance" x = true) (hc : cn1 ar sc cn y = true) (ha : PE X l (tB F Wx c a)) (hh : head l = true) : PE X (.Call (.Name x q) [l, .Name y p2] [] p) (tE F Wx c (.isi a [cn])) := by
  obtain ⟨rfl, g1, g2, g3⟩ := gn_ok hx
  obtain ⟨cv, hcv, hpe, hcn⟩ := cn_val cx (p := p2) hc
  -- the rule: plain data, or the error that the suite holds
  have rule : CallR X (.builtin "isinstance") (fun xs H Q => L2.rIsi X.K xs H Q ∨ ∃ ea C dd b, F.p.x0 = some (ea, C, dd) ∧ isInst (.exc C []) cn = some b ∧ ∃ v, xs = [.ref ea, v] ∧ CnV X cn v ∧ (∀ dx, dd = some dx → ∃ fs, H dx = some (.xd fs)) ∧ Q (.bl b) H) := fun pins s σ H xs us Q I r h => by
    rcases h with h | ⟨ea, C, dd, b, h0, h1, h2⟩
    · exact L2.call_isi pins s σ H xs us Q I r h
    · exact cx.xis ea C dd h0 cn b h1 (fun n e => by rw [e] at hcn; exact hcn) pins s σ H xs us Q I r h2
  have pa : PA X [l, .Name y p2] (L2.tCons (tB F Wx c a) (L2.tCons (L2.tC cv) L2.tNil)) := L2.pa_cons ha (L2.pa_cons hpe L2.pa_nil rfl) (star_head hh)
  refine pe_weak (L2.pe_callB rule (cx_gl cx g1) (cx.blt "isinstance" (by decide)) (by decide +kernel) pa g3 g2 (star_head hh) rfl) fun σ H Q ⟨ia, w, fr, q⟩ => ?_
  have q' : Post F Wx σ ia w H (rD F.p) ((evE c a w).bind fun x w1 => (opt (isInsts (dr w1 x) [cn]) w1).bind fun t w2 => .ok (.bl t) w2) Q := q
  refine ⟨ia, w, fr, q'.bind fun x w1 v H1 f1 l1 s1 r1 h1 => ?_⟩
  cases hi : isInst (dr w1 x) cn with
  | none =>
    have hi2 : isInsts (dr w1 x) [cn] = none := hi
    rw [hi2] at h1
    exact h1.elim
  | some bb =>
    have hi2 : isInsts (dr w1 x) [cn] = some bb := hi
    rw [hi2] at h1
    have hq : Q (.bl bb) H1 := Post.here (a := D.bl bb) h1 f1 rep_bl
    have rr := f1.dr r1.b
    show L2.rIsi X.K [v, cv] H1 Q ∨ _
    rcases ty_or_exc hi with ⟨t, ht⟩ | ⟨C, fs, he⟩
    · obtain ⟨tx, hm⟩ := tyX_of ht rr
      obtain ⟨v2, u, k1, k2, k3⟩ := kit_of (X := X) cx.kcl ht hm hi hcn
      rw [cnV_uniq k1 hcv] at k2
      exact .inl ⟨v, cv, .type t, u, bb, rfl, k2, by rw [cx.hK]; exact tx, k3, hq⟩
    · rw [he] at rr hi
      have r2 := rr.strong (fun _ z => by cases z) (fun _ z => by cases z)
      unfold Rep at r2
      obtain ⟨ea, dd, e0, e1, em⟩ := r2
      exact .inr ⟨ea, C, dd, bb, e0, by cases cn <;> exact hi, cv, by rw [e1], hcv, fun dx ed => by
        subst ed
        obtain ⟨fv, g, _⟩ := em
        exact ⟨fv, g⟩, hq⟩
/-- isinstance(x, (C, ..)): plain data -/
theorem cn_vals (cx : Cxt F Wx c sc N ar cm X) : ∀ {cs : List Cn} {es : List Expr}, cnB ar sc cs es = true → ∃ cvs, PA X es (fun _ H Q => Q cvs H) ∧ cvs.length = es.length ∧ ∀ d t b, tyOf d = some t → t ∈ tyTs → isLoop d cs = some b → ∃ us, Paired L2.ClsV cvs us ∧ PySem.W.kitAny X.K (.type t) us = some b
  | [], [], _ => ⟨[], pa_weak L2.pa_nil fun _ _ _ q => q, rfl, fun d t b _ _ h => by
    unfold isLoop at h
    cases h
    exact ⟨[], .nil, rfl⟩⟩
  | [], _ :: _, h => by cases h
  | cn :: cs, [], h => by cases h
  | cn :: cs, e :: es, h => by
    unfold cnB at h
    cases hd : dName e with
    | none =>
      rw [hd] at h
      cases h
    | some z =>
      obtain ⟨x, p, rfl, rfl⟩ := dName_ok hd
      rw [hd] at h
      obtain ⟨h1, h2⟩ := Bool.and_eq_true_iff.mp h
      obtain ⟨cv, hcv, hpe, hcn⟩ := cn_val cx (p := p) h1
      obtain ⟨cvs, hpa, hl, hk⟩ := cn_vals cx h2
      refine ⟨cv :: cvs, pa_weak (L2.pa_cons hpe hpa rfl) fun _ _ _ q => q, by simp [hl], fun d t b ht hm hi => ?_⟩
      unfold isLoop at hi
      cases ha : isInst d cn with
      | none =>
        rw [ha] at hi
        cases hi
      | some b1 =>
        cases hb : isLoop d cs with
        | none =>
          rw [ha, hb] at hi
          cases hi
        | some b2 =>
          rw [ha, hb] at hi
          cases hi
          obtain ⟨v2, u, k1, k2, k3⟩ := kit_of (X := X) cx.kcl ht hm ha hcn
          rw [cnV_uniq k1 hcv] at k2
          obtain ⟨us, pr, ka⟩ := hk d t b2 ht hm hb
          refine ⟨u :: us, .cons k2 pr, L2.kitAny_cons k3 (fun z => ?_) fun z => ?_⟩
          · rw [z]
            exact ka
          · rw [z]
            rfl
theorem s_isiT (cx : Cxt F Wx c sc N ar cm X) {cs : List Cn} {x : Str} {es : List Expr} {k : Nat} {q p p2 : Pos} (hx : gnB sc "isinstance" x = true) (hz : es.length ≤ 1000) (hc : cnB ar sc cs es = true) (h2 : ∀ c, cs ≠ [c]) (ha : PE X l (tB F Wx c a)) (hh : head l = true) : PE X (.Call (.Name x q) [l, .Tuple es k p2] [] p) (tE F Wx c (.isi a cs)) := by
  obtain ⟨rfl, g1, g2, g3⟩ := gn_ok hx
  obtain ⟨cvs, hpa, hl, hk⟩ := cn_vals cx hc
  have pa : PA X [l, .Tuple es k p2] (L2.tCons (tB F Wx c a) (L2.tCons (L2.tTup (fun _ H Q => Q cvs H)) L2.tNil)) := L2.pa_cons ha (L2.pa_cons (L2.pe_tup hpa) L2.pa_nil rfl) (star_head hh)
  refine pe_weak (L2.pe_callB L2.call_isiT (cx_gl cx g1) (cx.blt "isinstance" (by decide)) (by decide +kernel) pa g3 g2 (star_head hh) rfl) fun σ H Q ⟨ia, w, fr, q⟩ => ?_
  have q' : Post F Wx σ ia w H (rD F.p) ((evE c a w).bind fun x w1 => (opt (isInsts (dr w1 x) cs) w1).bind fun t w2 => .ok (.bl t) w2) Q := q
  refine ⟨ia, w, fr, q'.bind fun x w1 v H1 f1 l1 s1 r1 h1 => ⟨by rw [hl, sizeLine_eq]; omega, fun tp hp => ?_⟩⟩
  cases hi : isInsts (dr w1 x) cs with
  | none =>
    rw [hi] at h1
    exact h1.elim
  | some bb =>
    rw [hi] at h1
    have f2 := f1.alloc (o := .tup cvs) hp
    have h1' : Post F Wx σ ia w1 H1 (rD F.p) (.ok (.bl bb) w1) Q := h1
    have hq : Q (.bl bb) (upd H1 tp (.tup cvs)) := h1' _ _ f2 (Le.alloc hp) (fun _ z => z) rep_bl
    have rr := f2.dr ((r1.on (f1.onA hp)).b)
    have two : plainD (dr w1 x) = true ∧ isLoop (dr w1 x) cs = some bb := by
      unfold isInsts at hi
      split at hi
      · exact absurd rfl (h2 _)
      · split at hi
        · rename_i hp
          exact ⟨hp, hi⟩
        · cases hi
    obtain ⟨pl, hi⟩ := two
    have ty : ∃ t, tyOf (dr w1 x) = some t := by
      cases hq : dr w1 x <;> rw [hq] at pl <;> first | exact ⟨_, rfl⟩ | cases pl
    obtain ⟨t, ht⟩ := ty
    · obtain ⟨tx, hm⟩ := tyX_of ht rr
      obtain ⟨us, pr, ka⟩ := hk _ t bb ht hm hi
      exact ⟨v, tp, cvs, .type t, us, bb, rfl, L2.upd_same, pr, by rw [cx.hK]; exact tx, ka, hq⟩

/-! ### items -/
theorem ix_dict (hu : X.A.units + 1 < cLine) : IxR X (fun x y H Q => ∃ a v, x = .ref a ∧ L2.DGet H a y (some v) ∧ Q v H) := by
  intro value slice pins s σ H x y v u Q I rx ry h hs
  obtain ⟨a, z, rfl, g, q⟩ := h
  cases rx
  have hT : s.TypeIs (.ref a) "dict" := L2.dict_typeIs I g
  unfold subscriptTail
  refine wpAny_bind ?_
  rw [getitemInPython_of_ne hT.not_modules]
  refine wpAny_bind (wpAny_specialOf hT PySem.F.slot_dict_getitem.lookup ?_)
  have fin : wpAny (model X.prog X.w) X.A (subscripted slice false (.ref a) u) (fun r s₃ => wpAny (model X.prog X.w) X.A (letTemporaryGo value (.ref a) r >>= fun _ => pure r) (EP X pins σ Q) X.xe s₃) X.xe s := by
    rw [hs]
    exact wpAny_operating (L2.d_getItem hu I g ry fun w' s3 I3 rw' => wpAny_bind (wpAny_letTemporaryGo (wpAny_pure ⟨z, H, I3, rw', q⟩)))
  first
    | exact wpAny_pure (wpAny_bind fin)
    | exact wpAny_bind fin
def ixR (K : PySem.W.Frag) : R2 := fun x y H Q => L2.rIx K x y H Q ∨ ∃ a v, x = .ref a ∧ L2.DGet H a y (some v) ∧ Q v H
theorem atI_of {α : Type} (xs : List α) (i : Int) : L2.atI xs i = (ixOf xs.length i).bind fun j => xs[j]? := rfl
theorem getKs {p : Pm} {ia : List Addr} {O : Addr → Prop} {H : Hp} {k : Ky} {d : D} : ∀ {kvs : List (Ky × D)} {kws : List (L2.Key × V)}, RepKs p ia O H kvs kws → valK kvs k = some d → ∃ v, L2.valV kws (kyV k) = some v ∧ Rep p ia O H d v
  | [], kws, h, e => by
    unfold valK at e
    simp at e
  | (k2, d2) :: r, kws, h, e => by
    unfold RepKs at h
    obtain ⟨v, s, rfl, h1, h2⟩ := h
    by_cases hk : k2 = k
    · subst hk
      unfold valK at e
      simp at e
      subst e
      exact ⟨v, L2.valV_pos rfl, h1⟩
    · have hk2 : ¬ kyV k2 = kyV k := fun z => hk (by
        cases k2 with
        | inl i =>
          cases k with
          | inl j =>
            have := Sum.inl.inj z
            rw [this]
          | inr y => cases z
        | inr x =>
          cases k with
          | inl j => cases z
          | inr y =>
            have := Sum.inr.inj z
            rw [strOf_inj this])
      unfold valK at e
      simp only [List.find?_cons, hk, decide_false] at e
      obtain ⟨u, g1, g2⟩ := getKs h2 e
      exact ⟨u, by rw [L2.valV_neg hk2]; exact g1, g2⟩
theorem itemR_of {K : PySem.W.Frag} {d k z : D} {σ : L2.St} {ia : List Addr} {w : W} {H : Hp} {Q : VK} {x y : V} (hK : K = F.p.K) (hz : itemOf d k = some z) (f : Fr F ia w σ H) (rx : RepB F.p ia (Mu F ia w σ) H d x) (ry : Rep F.p ia (Mu F ia w σ) H k y) (t : Then F σ ia w H z Q) : ixR K x y H Q := by
  subst hK
  have yi : ∀ i, k = .int i → y = .int i := fun i e => by
    rw [e] at ry
    unfold Rep at ry
    exact ry
  have ys : ∀ i, k = .str i → y = .str (strOf i) := fun i e => by
    rw [e] at ry
    unfold Rep at ry
    exact ry
  unfold itemOf at hz
  split at hz
  · obtain ⟨a, vs, rfl, h1, h2⟩ := rx.lst
    rename_i xs i
    cases hj : ixOf xs.length i with
    | none =>
      rw [hj] at hz
      cases hz
    | some j =>
      rw [hj] at hz
      obtain ⟨v, g1, g2⟩ := h2.get hz
      refine .inl (.inl ⟨a, vs, i, v, rfl, yi i rfl, L2.SqL.of h1, ?_, t.same f g2⟩)
      rw [atI_of, h2.length, hj]
      exact g1
  · obtain ⟨a, vs, rfl, h1, h2⟩ := rx.tup_
    rename_i xs i
    cases hj : ixOf xs.length i with
    | none =>
      rw [hj] at hz
      cases hz
    | some j =>
      rw [hj] at hz
      obtain ⟨v, g1, g2⟩ := h2.get hz
      refine .inl (.inr (.inl ⟨a, vs, i, v, rfl, yi i rfl, h1, ?_, t.same f g2⟩))
      rw [atI_of, h2.length, hj]
      exact g1
  · rename_i s i
    split at hz
    · rename_i hl
      cases hj : ixOf s.length i with
      | none =>
        rw [hj] at hz
        cases hz
      | some j =>
        rw [hj] at hz
        cases hc : s[j]? with
        | none =>
          have hz' : (s[j]?).map (fun c => D.str [c]) = some z := hz
          rw [hc] at hz'
          cases hz'
        | some ch =>
          have hz' : (s[j]?).map (fun c => D.str [c]) = some z := hz
          rw [hc] at hz'
          cases hz'
          refine .inl (.inr (.inr ⟨strOf s, i, ch, rx.str_, yi i rfl, by rw [strOf_length]; exact line_of hl, ?_, ?_⟩))
          · rw [atI_of]
            show (ixOf (s.toArray.toList).length i).bind _ = _
            have e2 : (strOf s).cps.toList = s := by unfold strOf; simp
            rw [e2]
            have e3 : s.toArray.toList = s := by simp
            rw [e3, hj]
            exact hc
          · have := t.str f
            exact this
    · cases hz
  · obtain ⟨a, kws, rfl, h1, h2⟩ := rx.dic
    rename_i kvs i
    obtain ⟨v, g1, g2⟩ := getKs h2 hz
    refine .inr ⟨a, v, rfl, ?_, t.same f g2⟩
    rw [yi i rfl, ← g1]
    exact L2.DGet.k (k := Sum.inl i) h1
  · obtain ⟨a, kws, rfl, h1, h2⟩ := rx.dic
    rename_i kvs i
    obtain ⟨v, g1, g2⟩ := getKs h2 hz
    refine .inr ⟨a, v, rfl, ?_, t.same f g2⟩
    rw [ys i rfl, ← g1]
    exact L2.DGet.k (k := Sum.inr (strOf i)) h1
  · cases hz
theorem s_ix (cx : Cxt F Wx c sc N ar cm X) {pos : Pos} (ha : PE X l (tB F Wx c a)) (hb : PE X r (tE F Wx c b)) (hr : head r = true) : PE X (.Subscript l r pos) (tE F Wx c (.ix a b)) :=
  pe_weak (L2.pe_ix (L2.ix_seq.or (ix_dict (by have := cx.un; omega))) ha hb (fun o i => by cases r <;> first | rfl | cases hr)) fun σ H Q ⟨ia, w, f, q⟩ => by
    have q' : Post F Wx σ ia w H (rD F.p) ((evE c a w).bind fun x w1 => (evE c b w1).bind fun y w2 => opt (itemOf (dr w2 x) y) w2) Q := q
    refine ⟨ia, w, f, q'.bind fun x w1 v H1 f1 l1 s1 r1 h1 => ⟨ia, w1, f1, h1.bind fun y w2 u H2 f2 l2 s2 r2 h2 => ?_⟩⟩
    have o1 : On ia ia (Mu F ia w1 σ) (Mu F ia w2 σ) H1 H2 := ⟨l2, fun b hb => .inr (.inl hb), fun b hb => .inl (s2 b hb), fun _ _ h => h⟩
    cases hz : itemOf (dr w2 x) y with
    | none =>
      rw [hz] at h2
      exact h2.elim
    | some z =>
      rw [hz] at h2
      exact itemR_of cx.hK hz f2 (f2.dr (r1.on o1).b) r2 fun v H' f3 l3 r3 => h2 v H' f3 l3 (fun _ z => z) r3
end
end RX

/-! FA: calls of a local name, lambdas that are asked. -/
namespace RX
open PySem PySem.Spec PyProof.Rows
open L2 (Hp V HO VK XK WX upd Cx OpR R2 PE PT PA TE TA TT Gl Vis Inv EP PW CallR IxR)
section
variable {F : Sf} {Wx : WX} {c : Ct} {sc : Scope} {N : List Str} {ar : String → Nat → Bool} {cm : Bool} {X : Cx} {m a b d : E} {e l r : Expr}
theorem Fr.ofExtN {ia : List Addr} {w : W} {σ : L2.St} {H H1 : Hp} (f : Fr F ia w σ H) (x : LamX.ExtN H H1) (t : LamX.Tabs F.T H1) : Fr F ia w σ H1 ∧ Le ia H H1 := by
  have l : Le [] H H1 := ⟨fun b o e _ n => x b o e n, fun b xs e => x b _ e (fun ps z => by cases z), fun b o u e => x b _ e (fun ps z => by cases z), fun b n o e => by
    refine Classical.byContradiction fun h => ?_
    have h' : ∀ ps, o ≠ .tbl ps := fun ps z => h ⟨ps, z⟩
    exact Nt.not (x b o e h') h' n⟩
  exact ⟨f.grow l t, l.weak fun b hb => absurd hb (by simp)⟩
/-- the frame's fixed things, as a lambda of it sees them -/
def lamF (F : Sf) (ia : List Addr) (w : W) (σ : L2.St) (H : Hp) : Sf := { F with H0 := H, O0 := Mu F ia w σ, ia0 := ia }
theorem lend_no {w : W} {i : Nat} {d : D} (h : isOwn ((w.sl.map lend)[i]?) d) : False := by
  rw [List.getElem?_map] at h
  cases q : w.sl[i]? with
  | none =>
    rw [q] at h
    rcases h with h | h <;> cases h
  | some s =>
    rw [q] at h
    cases s <;> rcases h with h | h <;> cases h
theorem Fr.toLam {ia : List Addr} {w : W} {σ : L2.St} {H : Hp} (f : Fr F ia w σ H) : Fr (lamF F ia w σ H) ia ⟨w.sl.map lend, w.cs⟩ σ H ∧ ∀ b, Mu (lamF F ia w σ H) ia ⟨w.sl.map lend, w.cs⟩ σ b ↔ Mu F ia w σ b := by
  have em : ∀ b, Mu (lamF F ia w σ H) ia ⟨w.sl.map lend, w.cs⟩ σ b ↔ Mu F ia w σ b := fun b => ⟨fun z => by
    rcases z with z | z | ⟨i, d, z, _⟩
    · exact z
    · exact .inr (.inl z)
    · exact (lend_no z).elim, fun z => .inl z⟩
  have eo : Mu (lamF F ia w σ H) ia ⟨w.sl.map lend, w.cs⟩ σ = Mu F ia w σ := funext fun b => propext (em b)
  refine ⟨⟨Le.refl, f.tabs, fun a h => .inr (.inl h), f.mu, fun _ _ h => h, fun a h => .inl h, f.ind, f.ilen, fun i a d h1 h2 => by rw [eo]; exact f.cells i a d h1 h2, fun i d h => ?_, fun i d h => (lend_no h).elim, fun i j a d e h => (lend_no h).elim, ?_, f.cnt⟩, em⟩
  · have h' : (w.sl.map lend)[i]? = some (.val d) := h
    rw [List.getElem?_map] at h'
    cases q : w.sl[i]? with
    | none =>
      rw [q] at h'
      cases h'
    | some s =>
      rw [q] at h'
      cases s with
      | val d' =>
        cases h'
        rw [eo]
        exact f.slv i d q
      | _ => cases h'
  · show (w.sl.map lend).length = σ.length
    rw [List.length_map]
    exact f.len
theorem s_ask (cx : Cxt F Wx c sc N ar cm X) (hcm : cm = true) {f : String} {x : Str} {q p lpos : Pos} {ps : Arguments} {bd : Expr} {ls : Scope} {body : E} (hx : gnB sc f x = true) (h1 : ar f 996 = true) (h2 : ar "<lambda>" 997 = true) (h3 : lamArgs ps = true) (h4 : LamX.lamSB sc ls = true)
    (hb : ∀ {F' : Sf} {W : WX} {X' : Cx}, Cxt F' W (lamCt c) ls N (arL ar) true X' → PE X' bd (tE F' W (lamCt c) body)) : PE X (.Call (.Name x q) [.Lambda ps bd ls lpos] [] p) (tE F Wx c (.ask f body)) := by
  obtain ⟨rfl, g1, g2, g3⟩ := gn_ok hx
  obtain ⟨TT, mk, tt⟩ := cx.ask hcm f h1 h2
  have x0 := cx.x0n h2
  have tb : ∀ (F' : Sf), F'.p = F.p → F'.T = F.T → F'.n = F.n → ∀ A outer s H E f' c', LamC F.p F.T c ar (LamX.lamCx X A outer s H E ls f' c') E → Cxt F' (fun cls d _ H' => E cls d H') (lamCt c) ls N (arL ar) true (LamX.lamCx X A outer s H E ls f' c') := fun F' e1 e2 e3 A outer s H E f' c' lc =>
    ⟨by rw [e1]; exact cx.hK, by rw [e1]; exact cx.hmg, rfl, cx.hN, by rw [e3]; exact cx.hn, cx.nd, lc.tk, lc.un, fun _ => rfl, cx.blt, fun _ g n hn hg => by rw [e1, e2]; exact lc.call g n hn hg, fun C hC => cx.kcl C (Bool.and_eq_true_iff.mp hC).2, (fun a C dd h => by rw [e1, x0] at h; cases h), (fun a C dd g h => by rw [e1, x0] at h; cases h),
      (fun _ g hg => by unfold arL at hg; simp at hg), fun hg => by rw [e1]; exact x0, fun g n hn hg => cx.glo g n hn (Bool.and_eq_true_iff.mp hg).2⟩
  let t : XK → TE := fun E σ H Q => ∃ F', F'.p = F.p ∧ F'.T = F.T ∧ F'.n = F.n ∧ tE F' (fun cls d _ H' => E cls d H') (lamCt c) body σ H Q
  have hbody : ∀ A outer s H E f' c', LamC F.p F.T c ar (LamX.lamCx X A outer s H E ls f' c') E → PE (LamX.lamCx X A outer s H E ls f' c') bd (t E) := fun A outer s H E f' c' lc => ⟨fun pins s' σ' H' Q' I ⟨F', e1, e2, e3, hq⟩ => (hb (tb F' e1 e2 e3 A outer s H E f' c' lc)).run pins s' σ' H' Q' I hq⟩
  refine pe_weak (mk ps bd ls q lpos p t h3 (by rw [cx.hsc]; exact LamX.lamS_by h4) (cx_gl cx g1) g2 hbody) fun σ H Q ⟨ia, w, fr, pq⟩ => ⟨fr.tabs, fun H1 eN T1 => ?_⟩
  have pq' : Post F Wx σ ia w H (rD F.p) (liftN (c.ask f (fun cs => lamCR (evE (lamCt c) body ⟨w.sl.map lend, cs⟩)) w.cs) w) Q := pq
  obtain ⟨f1, l1⟩ := fr.ofExtN eN T1
  refine tt _ (fun cs => lamCR (evE (lamCt c) body ⟨w.sl.map lend, cs⟩)) w.cs ia (Mu F ia w σ) H1 Q (fun a h => .inr (.inl h)) f1.mu T1 f1.cok (fun E Q' hp => ?_) ?_
  · obtain ⟨f2, em⟩ := f1.toLam
    refine ⟨lamF F ia w σ H1, rfl, rfl, rfl, ia, ⟨w.sl.map lend, w.cs⟩, f2, ?_⟩
    have mus : ∀ w' H', Fr (lamF F ia w σ H1) ia w' σ H' → (∀ b, Mu (lamF F ia w σ H1) ia w' σ b → Mu (lamF F ia w σ H1) ia ⟨w.sl.map lend, w.cs⟩ σ b) → Mu (lamF F ia w σ H1) ia w' σ = Mu F ia w σ := fun w' H' _ s => funext fun b => propext ⟨fun z => (em b).mp (s b z), fun z => .inl z⟩
    revert hp
    show PostC F.p F.T ia (Mu F ia w σ) H1 (lamCR (evE (lamCt c) body ⟨w.sl.map lend, w.cs⟩)) Q' E → _
    cases evE (lamCt c) body ⟨w.sl.map lend, w.cs⟩ with
    | ok d w' =>
      intro hp v H' f3 l3 s3 r3
      have e := mus w' H' f3 s3
      have r3' : Rep F.p ia (Mu (lamF F ia w σ H1) ia w' σ) H' d v := r3
      rw [e] at r3'
      exact hp v H' l3 f3.tabs ⟨f3.ilen, f3.ind, fun i a d h1 h2 => by rw [← e]; exact f3.cells i a d h1 h2⟩ r3' fun z => by cases z
    | ex C fs w' =>
      intro hp cls dd H' f3 l3 s3 x3
      have e := mus w' H' f3 s3
      have x3' : ExRel F.p ia (Mu (lamF F ia w σ H1) ia w' σ) H' C fs cls dd := x3
      rw [e] at x3'
      exact hp cls dd H' l3 f3.tabs ⟨f3.ilen, f3.ind, fun i a d h1 h2 => by rw [← e]; exact f3.cells i a d h1 h2⟩ x3'
    | bad => exact fun hp => hp.elim
  · revert pq'
    cases c.ask f (fun cs => lamCR (evE (lamCt c) body ⟨w.sl.map lend, cs⟩)) w.cs with
    | ok d fr' cs => exact fun pq' v H' l t ck rp _ => pq' v H' (f1.called l t ck) (l1.trans l) (fun _ z => z) rp
    | ex C fs cs => exact fun pq' => pq'.elim
    | bad => exact fun pq' => pq'
theorem s_callv (cx : Cxt F Wx c sc N ar cm X) (hcm : cm = true) {i : Nat} {fs : List String} {x : Str} {q p : Pos} {y : Expr} {es : List Expr} {as : E} (hx : slotB sc N i x = true) (har0 : (decide (es.length + 1 < 900) && fs.all (fun f => ar f (es.length + 1))) = true) (h : PA X (y :: es) (tEs F Wx c as)) (hs : ∀ e ∈ y :: es, head e = true)
    (hl : ∀ w ds w', evEs c as w = .ok ds w' → ds.length = es.length + 1) : PE X (.Call (.Name x q) (y :: es) [] p) (tE F Wx c (.callv i fs as)) := by
  obtain ⟨h900, har⟩ := Bool.and_eq_true_iff.mp har0
  have h900 := of_decide_eq_true h900
  unfold slotB at hx
  simp only [Bool.and_eq_true, decide_eq_true_eq] at hx
  obtain ⟨h1, h2, h3⟩ := hx
  unfold okN at h3
  simp only [Bool.and_eq_true, Bool.not_eq_true'] at h3
  refine ⟨fun pins s σ H Q I ⟨ia, w, fr, pq⟩ => ?_⟩
  have pq' : Post F Wx σ ia w H (rD F.p) ((rdB w i).bind fun g w0 => match g with
    | .fn f => if f ∈ fs then (evEs c as w0).bind fun ds w1 => lift (c.call f ds w1.cs) w1 else .bad
    | _ => .bad) Q := pq
  unfold rdB at pq'
  split at pq'
  · rename_i d hd
    obtain ⟨v, ev, rv⟩ := fr.slv i d hd
    cases d with
    | fn f =>
      unfold Rep at rv
      obtain ⟨fa, hfa, rfl⟩ := rv
      have pq2 : Post F Wx σ ia w H (rD F.p) (if f ∈ fs then (evEs c as w).bind fun ds w1 => lift (c.call f ds w1.cs) w1 else .bad) Q := pq'
      by_cases hm : f ∈ fs
      · rw [if_pos hm] at pq2
        have ha := List.all_eq_true.mp har f hm
        obtain ⟨fa', fd, ps, k, sp, dvs, dvals, hm', hk, hr, FN, hb, hd', hsp⟩ := cx.call hcm f (es.length + 1) h900 ha
        have e2 : fa' = fa := by
          rw [← cx.hmg, hm'] at hfa
          cases hfa
          rfl
        subst e2
        refine wpAny_Call_Name_kw (L2.thn ((L2.pe_var (pos := q) (i := i) (by rw [cx.hN]; exact h1) (by rw [cx.hsc]; exact visB_ok h2) h3.1.1 h3.1.2).run pins s σ H (fun v H1 => v = .ref fa' ∧ H1 = H) I ⟨.ref fa', ev, rfl, rfl⟩) fun u s1 ⟨v, H1, I1, r1, q1⟩ => ?_)
        obtain ⟨ev', eH⟩ := q1
        subst ev'
        rw [eH] at I1
        obtain rfl : u = Value.ref fa' := r1
        have hA : tEs F Wx c as σ H fun vs H1 => sp (vs ++ dvs) H1 Q (L2.WE Wx σ) := by
          refine ⟨ia, w, fr, ?_⟩
          revert pq2
          cases he : evEs c as w with
          | ok ds w1 =>
            intro pq2 vs H2 f2 l2 s2 r2
            exact hsp ds w1.cs vs H2 Q _ (hl w ds w1 he) (tail_call f2 r2 (Post.base pq2 l2 s2))
          | ex C fs' w' => exact fun pq2 => pq2
          | bad => exact fun pq2 => pq2
        refine PySem.W.callWith_K (h₀ := X.base) I.ok.mod.kin hk (L2.thn (h.run p pins s1 σ H _ I1 hA) fun us s2 ⟨vs, H2, I2, r2, q2⟩ => ⟨I2.kIn, ?_⟩) (star_head (hs y List.mem_cons_self)) (by
          have : ∀ l : List Expr, (∀ e ∈ l, head e = true) → (backTo p (starEach l X.env)).any (·.1) = false := fun l => by
            induction l with
            | nil => intro _; rfl
            | cons y ys ih =>
              intro hy
              rw [star_head (hy y List.mem_cons_self)]
              exact ih fun z hz => hy z (List.mem_cons_of_mem _ hz)
          exact this es fun z hz => hs z (List.mem_cons_of_mem _ hz))
        exact L2.run_fnSD (E := L2.WE Wx) FN hr hb hd' (L2.passAt cx.tk σ) I2 r2 q2
      · rw [if_neg hm] at pq2
        exact pq2.elim
    | _ => exact pq'.elim
  · rename_i d hd
    obtain ⟨a, ea, ca, _⟩ := fr.slo i d (.inl hd)
    cases d with
    | fn f => exact ca.elim
    | _ => exact pq'.elim
  · rename_i d hd
    obtain ⟨a, ea, ca, _⟩ := fr.slo i d (.inr hd)
    cases d with
    | fn f => exact ca.elim
    | _ => exact pq'.elim
  · exact pq'.elim
end
end RX

/-! F11: every checked expression is sound. -/
namespace RX
open PySem PySem.Spec PyProof.Rows
open L2 (Hp V HO VK XK WX upd Cx OpR R2 PE PT PA TE TA TT Gl Vis Inv EP PW CallR IxR)
section
variable {F : Sf} {Wx : WX} {c : Ct} {sc : Scope} {N : List Str} {ar : String → Nat → Bool} {cm : Bool} {X : Cx} {m a b d : E} {e l r : Expr}
/-- an expression whose test is its value's truth -/
def PlainT (X : Cx) (e : Expr) : Prop := ∀ whole, isTrue e X.env whole = (do let v ← whole; standAt e.pos; holding [v] (truthy v))
structure Res (F : Sf) (Wx : WX) (c : Ct) (sc : Scope) (N : List Str) (ar : String → Nat → Bool) (cm : Bool) (X : Cx) (m : E) : Prop where
  val : ∀ e, chk ar cm sc N .val m e = true → PE X e (tE F Wx c m)
  bor : ∀ e, chk ar cm sc N .bor m e = true → PE X e (tB F Wx c m)
  tst : ∀ e, chk ar cm sc N .tst m e = true → PT X e (tT F Wx c m)
  lst : ∀ es, chkL ar cm sc N .val m es = true → PA X es (tEs F Wx c m)
  andV : ∀ x es pos, chkL ar cm sc N .val m (x :: es) = true → PE X (.BoolOp .And (x :: es) pos) (tE F Wx c (.and m))
  orV : ∀ x es pos, chkL ar cm sc N .val m (x :: es) = true → PE X (.BoolOp .Or (x :: es) pos) (tE F Wx c (.or m))
  andT : ∀ x es pos, chkL ar cm sc N .tst m (x :: es) = true → PW X (.BoolOp .And (x :: es) pos) (tT F Wx c (.and m))
  orT : ∀ x es pos, chkL ar cm sc N .tst m (x :: es) = true → PW X (.BoolOp .Or (x :: es) pos) (tT F Wx c (.or m))
theorem Res.plain (cx : Cxt F Wx c sc N ar cm X) (key : ∀ md e, chk ar cm sc N md m e = true → PE X e (tE F Wx c m) ∧ PlainT X e) (nl : ∀ md es, chkL ar cm sc N md m es = true → False) : Res F Wx c sc N ar cm X m :=
  ⟨fun e h => (key _ e h).1, fun e h => b_of (key _ e h).1, fun e h => t_of cx (b_of (key _ e h).1) (key _ e h).2, fun es h => (nl _ _ h).elim, fun x es p h => (nl _ _ h).elim, fun x es p h => (nl _ _ h).elim, fun x es p h => (nl _ _ h).elim, fun x es p h => (nl _ _ h).elim⟩
theorem Res.none (key : ∀ md e, chk ar cm sc N md m e = true → False) (nl : ∀ md es, chkL ar cm sc N md m es = true → False) : Res F Wx c sc N ar cm X m :=
  ⟨fun e h => (key _ e h).elim, fun e h => (key _ e h).elim, fun e h => (key _ e h).elim, fun es h => (nl _ _ h).elim, fun x es p h => (nl _ _ h).elim, fun x es p h => (nl _ _ h).elim, fun x es p h => (nl _ _ h).elim, fun x es p h => (nl _ _ h).elim⟩
/-- lists of arguments: as long as they are written, each head served -/
theorem chkL_len {md : Md} : ∀ {m : E} {es : List Expr}, chkL ar cm sc N md m es = true → es.length = lenE m ∧ (∀ e ∈ es, head e = true) ∧ (es = [] → m = .nil)
  | .nil, es, h => by
    unfold chkL at h
    have : es = [] := List.isEmpty_iff.mp h
    subst this
    exact ⟨rfl, fun _ z => (nomatch z), fun _ => rfl⟩
  | .cons a b, es, h => by
    unfold chkL at h
    cases es with
    | nil => cases h
    | cons x r =>
      simp only [Bool.and_eq_true] at h
      obtain ⟨h1, h2, h3⟩ := h
      obtain ⟨g1, g2, _⟩ := chkL_len h3
      refine ⟨by simp [lenE, g1], fun e he => ?_, fun z => by cases z⟩
      rcases List.mem_cons.mp he with q | q
      · rw [q]
        exact h1
      · exact g2 e q
  | .nm _, _, h | .bor _, _, h | .kI _, _, h | .kS _, _, h | .kB _, _, h | .kN, _, h | .glo _, _, h | .bin _ _ _, _, h | .neg _, _, h | .not _, _, h | .and _, _, h | .or _, _, h | .cmp _ _ _, _, h | .cmp2 _ _ _ _ _, _, h
  | .ife _ _ _, _, h | .call _ _, _, h | .callv _ _ _, _, h | .ask _ _, _, h | .bu _ _, _, h | .bb _ _ _, _, h | .isi _ _, _, h | .ix _ _, _, h | .slc _ _ _, _, h | .hole, _, h | .tupD _, _, h | .lstD _, _, h | .dicD _, _, h
  | .comp _ _ _ _, _, h | .itv _, _, h | .rng1 _, _, h | .rng2 _ _, _, h | .attr _ _, _, h | .nope, _, h => by
    unfold chkL at h
    cases h
theorem evEs_len : ∀ {m : E} {w : W} {ds : List D} {w' : W}, evEs c m w = .ok ds w' → ds.length = lenE m
  | .nil, w, ds, w', h => by
    unfold evEs at h
    cases h
    rfl
  | .cons a b, w, ds, w', h => by
    unfold evEs at h
    obtain ⟨x, w1, _, h1⟩ := R.bind_ok h
    obtain ⟨xs, w2, h2, h3⟩ := R.bind_ok h1
    cases h3
    have := evEs_len h2
    simp [lenE, this]
  | .nm _, _, _, _, h | .bor _, _, _, _, h | .kI _, _, _, _, h | .kS _, _, _, _, h | .kB _, _, _, _, h | .kN, _, _, _, h | .glo _, _, _, _, h | .bin _ _ _, _, _, _, h | .neg _, _, _, _, h | .not _, _, _, _, h | .and _, _, _, _, h | .or _, _, _, _, h
  | .cmp _ _ _, _, _, _, h | .cmp2 _ _ _ _ _, _, _, _, h | .ife _ _ _, _, _, _, h | .call _ _, _, _, _, h | .callv _ _ _, _, _, _, h | .ask _ _, _, _, _, h | .bu _ _, _, _, _, h | .bb _ _ _, _, _, _, h | .isi _ _, _, _, _, h
  | .ix _ _, _, _, _, h | .slc _ _ _, _, _, _, h | .hole, _, _, _, h | .tupD _, _, _, _, h | .lstD _, _, _, _, h | .dicD _, _, _, _, h | .comp _ _ _ _, _, _, _, h | .itv _, _, _, _, h | .rng1 _, _, _, _, h | .rng2 _ _, _, _, _, h | .attr _ _, _, _, _, h
  | .nope, _, _, _, h => by
    unfold evEs at h
    cases h
theorem glo_ar (h : (ar f 0 || ar f 1 || ar f 2) = true) : ∃ n, n < 900 ∧ ar f n = true := by
  simp only [Bool.or_eq_true] at h
  rcases h with (h | h) | h
  · exact ⟨_, by decide, h⟩
  · exact ⟨_, by decide, h⟩
  · exact ⟨_, by decide, h⟩
end
theorem ofString_inj {x y : String} (h : Str.ofString x = Str.ofString y) : x = y := by
  rw [Str.ofString_eq_toList, Str.ofString_eq_toList] at h
  have h2 : x.toList.map Char.toNat = y.toList.map Char.toNat := by
    have := congrArg (fun s : Str => s.cps.toList) h
    simpa using this
  have h3 : x.toList = y.toList := (List.map_inj_right fun a b (e : a.toNat = b.toNat) => Char.ext (UInt32.toNat_inj.mp e)).mp h2
  exact String.ext h3
theorem lookFs {p : Pm} {ia : List Addr} {O : Addr → Prop} {H : Hp} {f : String} {d : D} : ∀ {fs : List (String × D)} {fv : List (Str × V)}, RepFs p ia O H fs fv → fs.lookup f = some d → ∃ v, fv.lookup (Str.ofString f) = some v ∧ Rep p ia O H d v
  | [], fv, h, e => by cases e
  | (k, d2) :: r, fv, h, e => by
    unfold RepFs at h
    obtain ⟨v, s, rfl, h1, h2⟩ := h
    rw [List.lookup_cons] at e ⊢
    by_cases hk : f = k
    · subst hk
      rw [beq_self_eq_true] at e ⊢
      cases e
      exact ⟨v, rfl, h1⟩
    · have k1 : (f == k) = false := beq_eq_false_iff_ne.mpr hk
      have k2 : (Str.ofString f == Str.ofString k) = false := beq_eq_false_iff_ne.mpr fun z => hk (ofString_inj z)
      rw [k1] at e
      rw [k2]
      exact lookFs h2 e
theorem no_super {o : Expr} {n : Str} {env : Env} (h : superCall o = false) : attributeBase o n env (eval o env) = eval o env := by
  unfold attributeBase
  cases o with
  | Call f as ks p =>
    cases f with
    | Name x q =>
      cases as with
      | nil =>
        cases ks with
        | nil => cases h
        | cons _ _ => rfl
      | cons _ _ => rfl
    | _ => rfl
  | _ => rfl
theorem s_attr {F : Sf} {Wx : WX} {c : Ct} {sc : Scope} {N : List Str} {ar : String → Nat → Bool} {cm : Bool} {X : Cx} {a : E} {e : Expr} (cx : Cxt F Wx c sc N ar cm X) {f : String} {p : Pos} (hf : ar f 998 = true) (hs : superCall e = false) (h : PE X e (tE F Wx c a)) : PE X (.Attribute e (Str.ofString f) p) (tE F Wx c (.attr f a)) := by
  cases hx : F.p.x0 with
  | none =>
    refine ⟨fun pins s σ H Q I ⟨ia, w, fr, q⟩ => L2.attr_of (no_super hs) (L2.thn (h.run pins s σ H (fun _ _ => False) I ⟨ia, w, fr, ?_⟩) fun u s1 ⟨_, _, _, _, z⟩ => z.elim)⟩
    have q' : Post F Wx σ ia w H (rD F.p) ((evE c a w).bind fun x w1 => match x with
      | .exc _ fs => opt (fs.lookup f) w1
      | .obj _ fs => RX.R.bad
      | _ => .bad) Q := q
    refine q'.bind fun x w1 v H1 f1 l1 s1 r1 h1 => ?_
    cases x with
    | exc C fs =>
      have r2 : Rep F.p ia (Mu F ia w1 σ) H1 (.exc C fs) v := r1
      unfold Rep at r2
      obtain ⟨a, dd, e, _⟩ := r2
      rw [hx] at e
      cases e
    | _ => exact h1
  | some z =>
    obtain ⟨ea, C, dd⟩ := z
    obtain ⟨Ca, hp⟩ := cx.xat ea C dd f hx hf e _ p h (no_super hs)
    refine pe_weak hp fun σ H Q ⟨ia, w, fr, q⟩ => ⟨ia, w, fr, ?_⟩
    have q' : Post F Wx σ ia w H (rD F.p) ((evE c a w).bind fun x w1 => match x with
      | .exc _ fs => opt (fs.lookup f) w1
      | .obj _ fs => RX.R.bad
      | _ => .bad) Q := q
    refine q'.bind fun x w1 v H1 f1 l1 s1 r1 h1 => ?_
    cases x with
    | exc C' fs =>
      have r2 : Rep F.p ia (Mu F ia w1 σ) H1 (.exc C' fs) v := r1
      unfold Rep at r2
      obtain ⟨a2, dd2, e2, ev, m⟩ := r2
      rw [hx] at e2
      cases e2
      cases hl : fs.lookup f with
      | none =>
        have h2 : Post F Wx σ ia w1 H1 (rD F.p) (opt (fs.lookup f) w1) Q := h1
        rw [hl] at h2
        exact h2.elim
      | some d =>
        have h2 : Post F Wx σ ia w1 H1 (rD F.p) (opt (fs.lookup f) w1) Q := h1
        rw [hl] at h2
        cases dd with
        | none =>
          have m' : fs = [] := m
          subst m'
          cases hl
        | some dx =>
          obtain ⟨fv, g1, g2, g3⟩ := m
          obtain ⟨v2, g4, g5⟩ := lookFs g3 hl
          exact ⟨ev, rfl, dx, fv, v2, rfl, g1, g4, h2.here f1 g5⟩
    | _ => exact h1.elim
theorem s_dic0 {F : Sf} {Wx : WX} {c : Ct} {X : Cx} {p : Pos} : PE X (.Dict [] [] p) (tE F Wx c (.dicD .nil)) :=
  pe_weak L2.pe_dnewK fun σ H Q ⟨ia, w, fr, q⟩ a ha => by
    have q' : Post F Wx σ ia w H (rD F.p) (.ok (.dic []) w) Q := q
    refine q' (.ref a) _ (fr.alloc ha) (Le.alloc ha) (fun _ z => z) ?_
    show Rep _ _ _ _ _ _
    unfold Rep
    exact ⟨a, [], rfl, L2.upd_same, fr.fresh ha, by unfold RepKs; rfl⟩
theorem sound_E : ∀ (m : E) {F : Sf} {Wx : WX} {c : Ct} {sc : Scope} {N : List Str} {ar : String → Nat → Bool} {cm : Bool} {X : Cx}, Cxt F Wx c sc N ar cm X → Res F Wx c sc N ar cm X m := by
  intro m
  induction m with
  | nm i =>
    intro F Wx c sc N ar cm X cx
    refine Res.plain cx (fun md e h => ?_) fun md es h => by unfold chkL at h; cases h
    unfold chk at h
    cases hd : dName e with
    | none => rw [hd] at h; cases h
    | some z =>
      obtain ⟨x, p, rfl, rfl⟩ := dName_ok hd
      exact ⟨s_nm cx h, fun _ => rfl⟩
  | bor i =>
    intro F Wx c sc N ar cm X cx
    have key : ∀ md e, chk ar cm sc N md (.bor i) e = true → md ≠ .val ∧ PE X e (tB F Wx c (.bor i)) ∧ PlainT X e := fun md e h => by
      unfold chk at h
      cases hd : dName e with
      | none => rw [hd] at h; cases h
      | some z =>
        obtain ⟨x, p, rfl, rfl⟩ := dName_ok hd
        rw [hd] at h
        obtain ⟨h1, h2⟩ := Bool.and_eq_true_iff.mp h
        exact ⟨of_decide_eq_true h1, s_bor cx h2, fun _ => rfl⟩
    have nl : ∀ md es, chkL ar cm sc N md (.bor i) es = true → False := fun md es h => by unfold chkL at h; cases h
    exact ⟨fun e h => absurd rfl (key _ e h).1, fun e h => (key _ e h).2.1, fun e h => t_of cx (key _ e h).2.1 (key _ e h).2.2, fun es h => (nl _ _ h).elim, fun x es p h => (nl _ _ h).elim, fun x es p h => (nl _ _ h).elim, fun x es p h => (nl _ _ h).elim, fun x es p h => (nl _ _ h).elim⟩
  | kI i =>
    intro F Wx c sc N ar cm X cx
    refine Res.plain cx (fun md e h => ?_) fun md es h => by unfold chkL at h; cases h
    unfold chk at h
    cases hd : dInt e with
    | none => rw [hd] at h; cases h
    | some z =>
      obtain ⟨x, k, p, rfl, rfl⟩ := dInt_ok hd
      rw [hd] at h
      have e1 : i = x := of_decide_eq_true h
      subst e1
      exact ⟨s_const L2.pe_int (d := .int i) (fun _ _ _ => by unfold Rep; rfl) fun _ => rfl, fun _ => rfl⟩
  | kS i =>
    intro F Wx c sc N ar cm X cx
    refine Res.plain cx (fun md e h => ?_) fun md es h => by unfold chkL at h; cases h
    unfold chk at h
    cases hd : dStr e with
    | none => rw [hd] at h; cases h
    | some z =>
      obtain ⟨x, k, p, rfl, rfl⟩ := dStr_ok hd
      rw [hd] at h
      have e1 : i = x.cps.toList := of_decide_eq_true h
      have e2 : strOf i = x := by
        rw [e1]
        unfold strOf
        cases x
        simp
      exact ⟨s_const L2.pe_str (d := .str i) (fun _ _ _ => by unfold Rep; rw [e2]) fun _ => rfl, fun _ => rfl⟩
  | kB i =>
    intro F Wx c sc N ar cm X cx
    refine Res.plain cx (fun md e h => ?_) fun md es h => by unfold chkL at h; cases h
    unfold chk at h
    cases hd : dBl e with
    | none => rw [hd] at h; cases h
    | some z =>
      obtain ⟨x, k, p, rfl, rfl⟩ := dBl_ok hd
      rw [hd] at h
      have e1 : i = x := of_decide_eq_true h
      subst e1
      exact ⟨s_const L2.pe_bl (d := .bl i) (fun _ _ _ => by unfold Rep; rfl) fun _ => rfl, fun _ => rfl⟩
  | kN =>
    intro F Wx c sc N ar cm X cx
    refine Res.plain cx (fun md e h => ?_) fun md es h => by unfold chkL at h; cases h
    unfold chk at h
    cases hd : dNon e with
    | none => rw [hd] at h; cases h
    | some z =>
      obtain ⟨k, p, rfl, rfl⟩ := dNon_ok hd
      exact ⟨s_const L2.pe_non (d := .non) (fun _ _ _ => by unfold Rep; rfl) fun _ => rfl, fun _ => rfl⟩
  | glo f =>
    intro F Wx c sc N ar cm X cx
    refine Res.plain cx (fun md e h => ?_) fun md es h => by unfold chkL at h; cases h
    unfold chk at h
    cases hd : dName e with
    | none => rw [hd] at h; cases h
    | some z =>
      obtain ⟨x, p, rfl, rfl⟩ := dName_ok hd
      rw [hd] at h
      obtain ⟨h1, h2⟩ := Bool.and_eq_true_iff.mp h
      obtain ⟨rfl, g1, g2, g3⟩ := gn_ok h1
      obtain ⟨n, hn0, hn⟩ := glo_ar h2
      obtain ⟨a, ha⟩ := cx.glo f n hn0 hn
      exact ⟨s_const (L2.pe_glob (v := .ref a) (cx_gl cx g1) ha rfl g2) (d := .fn f) (fun _ _ _ => by unfold Rep; exact ⟨a, by rw [← cx.hmg]; exact ha, rfl⟩) fun _ => rfl, fun _ => rfl⟩
  | bin o a b iha ihb =>
    intro F Wx c sc N ar cm X cx
    refine Res.plain cx (fun md e h => ?_) fun md es h => by unfold chkL at h; cases h
    unfold chk at h
    cases hd : dBin e with
    | none => rw [hd] at h; cases h
    | some z =>
      obtain ⟨l, op, r, p, rfl, rfl⟩ := dBin_ok hd
      rw [hd] at h
      simp only [Bool.and_eq_true, decide_eq_true_eq] at h
      obtain ⟨rfl, h1, h2⟩ := h
      exact ⟨s_bin cx ((iha cx).bor _ h1) ((ihb cx).bor _ h2), fun _ => rfl⟩
  | neg a iha =>
    intro F Wx c sc N ar cm X cx
    refine Res.plain cx (fun md e h => ?_) fun md es h => by unfold chkL at h; cases h
    unfold chk at h
    cases hd : dUn e with
    | none => rw [hd] at h; cases h
    | some z =>
      obtain ⟨op, l, p, rfl, rfl⟩ := dUn_ok hd
      rw [hd] at h
      simp only [Bool.and_eq_true, decide_eq_true_eq] at h
      obtain ⟨rfl, h1⟩ := h
      exact ⟨s_neg cx ((iha cx).val _ h1), fun _ => rfl⟩
  | not a iha =>
    intro F Wx c sc N ar cm X cx
    have nl : ∀ md es, chkL ar cm sc N md (.not a) es = true → False := fun md es h => by unfold chkL at h; cases h
    have key : ∀ md e, chk ar cm sc N md (.not a) e = true → ∃ l p, e = .UnaryOp .Not l p ∧ chk ar cm sc N (subM md) a l = true := fun md e h => by
      unfold chk at h
      cases hd : dUn e with
      | none => rw [hd] at h; cases h
      | some z =>
        obtain ⟨op, l, p, rfl, rfl⟩ := dUn_ok hd
        rw [hd] at h
        simp only [Bool.and_eq_true, decide_eq_true_eq] at h
        obtain ⟨rfl, h1⟩ := h
        exact ⟨l, p, rfl, h1⟩
    have kv : ∀ md e, subM md = .bor → chk ar cm sc N md (.not a) e = true → PE X e (tE F Wx c (.not a)) := fun md e hm h => by
      obtain ⟨l, p, rfl, h1⟩ := key md e h
      rw [hm] at h1
      exact s_not cx ((iha cx).bor _ h1)
    refine ⟨fun e h => kv _ e rfl h, fun e h => b_of (kv _ e rfl h), fun e h => ?_, fun es h => (nl _ _ h).elim, fun x es p h => (nl _ _ h).elim, fun x es p h => (nl _ _ h).elim, fun x es p h => (nl _ _ h).elim, fun x es p h => (nl _ _ h).elim⟩
    obtain ⟨l, p, rfl, h1⟩ := key _ e h
    exact s_notT cx ((iha cx).tst _ h1)
  | and as iha =>
    intro F Wx c sc N ar cm X cx
    have nl : ∀ md es, chkL ar cm sc N md (.and as) es = true → False := fun md es h => by unfold chkL at h; cases h
    have key : ∀ md e, chk ar cm sc N md (.and as) e = true → ∃ l p, e = .BoolOp .And l p ∧ chkL ar cm sc N (opM md) as l = true := fun md e h => by
      unfold chk at h
      cases hd : dBool e with
      | none => rw [hd] at h; cases h
      | some z =>
        obtain ⟨op, l, p, rfl, rfl⟩ := dBool_ok hd
        rw [hd] at h
        simp only [Bool.and_eq_true, decide_eq_true_eq] at h
        obtain ⟨rfl, h1⟩ := h
        exact ⟨l, p, rfl, h1⟩
    have ne : ∀ {md l}, chkL ar cm sc N md as l = true → l = [] → as = .nil := fun h e => (chkL_len h).2.2 e
    have bad : ∀ e, PE X e (tE F Wx c (.and .nil)) := fun e => pe_weak pe_never fun _ _ _ ⟨_, _, _, q⟩ => q
    have badT : ∀ e, PT X e (tT F Wx c (.and .nil)) := fun e => ⟨fun _ _ _ _ _ _ q => by obtain ⟨_, _, _, q⟩ := q; exact q.elim⟩
    have kv : ∀ md e, opM md = .val → chk ar cm sc N md (.and as) e = true → PE X e (tE F Wx c (.and as)) := fun md e hm h => by
      obtain ⟨l, p, rfl, h1⟩ := key md e h
      rw [hm] at h1
      cases l with
      | nil =>
        rw [ne h1 rfl]
        exact bad _
      | cons x es => exact (iha cx).andV x es p h1
    refine ⟨fun e h => kv _ e rfl h, fun e h => b_of (kv _ e rfl h), fun e h => ?_, fun es h => (nl _ _ h).elim, fun x es p h => (nl _ _ h).elim, fun x es p h => (nl _ _ h).elim, fun x es p h => (nl _ _ h).elim, fun x es p h => (nl _ _ h).elim⟩
    obtain ⟨l, p, rfl, h1⟩ := key _ e h
    cases l with
    | nil =>
      rw [ne h1 rfl]
      exact badT _
    | cons x es => exact ((iha cx).andT x es p h1).pt
  | or as iha =>
    intro F Wx c sc N ar cm X cx
    have nl : ∀ md es, chkL ar cm sc N md (.or as) es = true → False := fun md es h => by unfold chkL at h; cases h
    have key : ∀ md e, chk ar cm sc N md (.or as) e = true → ∃ l p, e = .BoolOp .Or l p ∧ chkL ar cm sc N (opM md) as l = true := fun md e h => by
      unfold chk at h
      cases hd : dBool e with
      | none => rw [hd] at h; cases h
      | some z =>
        obtain ⟨op, l, p, rfl, rfl⟩ := dBool_ok hd
        rw [hd] at h
        simp only [Bool.and_eq_true, decide_eq_true_eq] at h
        obtain ⟨rfl, h1⟩ := h
        exact ⟨l, p, rfl, h1⟩
    have ne : ∀ {md l}, chkL ar cm sc N md as l = true → l = [] → as = .nil := fun h e => (chkL_len h).2.2 e
    have bad : ∀ e, PE X e (tE F Wx c (.or .nil)) := fun e => pe_weak pe_never fun _ _ _ ⟨_, _, _, q⟩ => q
    have badT : ∀ e, PT X e (tT F Wx c (.or .nil)) := fun e => ⟨fun _ _ _ _ _ _ q => by obtain ⟨_, _, _, q⟩ := q; exact q.elim⟩
    have kv : ∀ md e, opM md = .val → chk ar cm sc N md (.or as) e = true → PE X e (tE F Wx c (.or as)) := fun md e hm h => by
      obtain ⟨l, p, rfl, h1⟩ := key md e h
      rw [hm] at h1
      cases l with
      | nil =>
        rw [ne h1 rfl]
        exact bad _
      | cons x es => exact (iha cx).orV x es p h1
    refine ⟨fun e h => kv _ e rfl h, fun e h => b_of (kv _ e rfl h), fun e h => ?_, fun es h => (nl _ _ h).elim, fun x es p h => (nl _ _ h).elim, fun x es p h => (nl _ _ h).elim, fun x es p h => (nl _ _ h).elim, fun x es p h => (nl _ _ h).elim⟩
    obtain ⟨l, p, rfl, h1⟩ := key _ e h
    cases l with
    | nil =>
      rw [ne h1 rfl]
      exact badT _
    | cons x es => exact ((iha cx).orT x es p h1).pt
  | cmp o a b iha ihb =>
    intro F Wx c sc N ar cm X cx
    have nl : ∀ md es, chkL ar cm sc N md (.cmp o a b) es = true → False := fun md es h => by unfold chkL at h; cases h
    have key : ∀ md e, chk ar cm sc N md (.cmp o a b) e = true → PE X e (tE F Wx c (.cmp o a b)) ∧ PT X e (tT F Wx c (.cmp o a b)) := fun md e h => by
      unfold chk at h
      cases hd : dCmp e with
      | none => rw [hd] at h; cases h
      | some z =>
        obtain ⟨l, op, r, p, rfl, rfl⟩ := dCmp_ok hd
        rw [hd] at h
        simp only [Bool.and_eq_true, decide_eq_true_eq] at h
        obtain ⟨rfl, h0, h1, h2⟩ := h
        exact ⟨s_cmp cx ((iha cx).bor _ h1) ((ihb cx).bor _ h2) h0, s_cmpT cx ((iha cx).bor _ h1) ((ihb cx).bor _ h2) h0⟩
    exact ⟨fun e h => (key _ e h).1, fun e h => b_of (key _ e h).1, fun e h => (key _ e h).2, fun es h => (nl _ _ h).elim, fun x es p h => (nl _ _ h).elim, fun x es p h => (nl _ _ h).elim, fun x es p h => (nl _ _ h).elim, fun x es p h => (nl _ _ h).elim⟩
  | cmp2 o p a b d iha ihb ihd =>
    intro F Wx c sc N ar cm X cx
    have nl : ∀ md es, chkL ar cm sc N md (.cmp2 o p a b d) es = true → False := fun md es h => by unfold chkL at h; cases h
    have key : ∀ md e, chk ar cm sc N md (.cmp2 o p a b d) e = true → PE X e (tE F Wx c (.cmp2 o p a b d)) ∧ PT X e (tT F Wx c (.cmp2 o p a b d)) := fun md e h => by
      unfold chk at h
      cases hd : dCmp2 e with
      | none => rw [hd] at h; cases h
      | some z =>
        obtain ⟨l, op, oq, r, t, p, rfl, rfl⟩ := dCmp2_ok hd
        rw [hd] at h
        simp only [Bool.and_eq_true, decide_eq_true_eq] at h
        obtain ⟨rfl, rfl, h0, h1, h2, h3, h4⟩ := h
        exact ⟨s_cmp2 cx ((iha cx).bor _ h2) ((ihb cx).bor _ h3) ((ihd cx).bor _ h4) h1, s_cmp2T cx ((iha cx).bor _ h2) ((ihb cx).bor _ h3) ((ihd cx).bor _ h4) h1⟩
    exact ⟨fun e h => (key _ e h).1, fun e h => b_of (key _ e h).1, fun e h => (key _ e h).2, fun es h => (nl _ _ h).elim, fun x es p h => (nl _ _ h).elim, fun x es p h => (nl _ _ h).elim, fun x es p h => (nl _ _ h).elim, fun x es p h => (nl _ _ h).elim⟩
  | ife t a b iht iha ihb =>
    intro F Wx c sc N ar cm X cx
    have nl : ∀ md es, chkL ar cm sc N md (.ife t a b) es = true → False := fun md es h => by unfold chkL at h; cases h
    have key : ∀ md e, chk ar cm sc N md (.ife t a b) e = true → md ≠ .tst ∧ PE X e (tE F Wx c (.ife t a b)) := fun md e h => by
      unfold chk at h
      cases hd : dIf e with
      | none => rw [hd] at h; cases h
      | some z =>
        obtain ⟨x, l, r, p, rfl, rfl⟩ := dIf_ok hd
        rw [hd] at h
        simp only [Bool.and_eq_true, decide_eq_true_eq] at h
        obtain ⟨h0, h1, h2, h3⟩ := h
        exact ⟨h0, s_ife cx ((iht cx).tst _ h1) ((iha cx).val _ h2) ((ihb cx).val _ h3)⟩
    exact ⟨fun e h => (key _ e h).2, fun e h => b_of (key _ e h).2, fun e h => absurd rfl (key _ e h).1, fun es h => (nl _ _ h).elim, fun x es p h => (nl _ _ h).elim, fun x es p h => (nl _ _ h).elim, fun x es p h => (nl _ _ h).elim, fun x es p h => (nl _ _ h).elim⟩
  | call f as iha =>
    intro F Wx c sc N ar cm X cx
    refine Res.plain cx (fun md e h => ?_) fun md es h => by unfold chkL at h; cases h
    unfold chk at h
    cases hd : dCall e with
    | none => rw [hd] at h; cases h
    | some z =>
      obtain ⟨x, q, es, p, rfl, rfl⟩ := dCall_ok hd
      rw [hd] at h
      obtain ⟨h0, h⟩ := Bool.and_eq_true_iff.mp h
      obtain ⟨h1, h⟩ := Bool.and_eq_true_iff.mp h
      obtain ⟨h2, h3⟩ := Bool.and_eq_true_iff.mp h
      obtain ⟨g1, g2, g3⟩ := chkL_len h3
      exact ⟨s_call cx h0 h1 h2 ((iha cx).lst _ h3) g2 (fun w ds w' e => by rw [evEs_len e, g1]) g3, fun _ => rfl⟩
  | bu f a iha =>
    intro F Wx c sc N ar cm X cx
    refine Res.plain cx (fun md e h => ?_) fun md es h => by unfold chkL at h; cases h
    unfold chk at h
    split at h
    · rename_i x q y p hd
      obtain ⟨x', q', es', p', ez, rfl⟩ := dCall_ok hd
      cases ez
      split at h
      · rename_i n hn
        simp only [Bool.and_eq_true, Bool.or_eq_true, decide_eq_true_eq] at h
        obtain ⟨h0, h1, h2, h3⟩ := h
        exact ⟨s_bu cx hn h0 (fun e => h2.elim (fun z => z) fun z => absurd e z) ((iha cx).bor _ h3) h1, fun _ => rfl⟩
      · cases h
    · split at h
      · rename_i o mm q p hd
        obtain ⟨o', m', q', es', p', ez, rfl⟩ := dMeth_ok hd
        cases ez
        simp only [Bool.and_eq_true, decide_eq_true_eq, Bool.not_eq_true'] at h
        obtain ⟨rfl, rfl, h1, h2, h3⟩ := h
        exact ⟨s_bits cx ((iha cx).bor _ h3) h1 h2, fun _ => rfl⟩
      · cases h
  | bb f a b iha ihb =>
    intro F Wx c sc N ar cm X cx
    refine Res.plain cx (fun md e h => ?_) fun md es h => by unfold chkL at h; cases h
    unfold chk at h
    split at h
    · rename_i x q y z p hd
      obtain ⟨x', q', es', p', ez, rfl⟩ := dCall_ok hd
      cases ez
      split at h
      · rename_i n hn
        simp only [Bool.and_eq_true] at h
        obtain ⟨h0, h1, h2, h3, h4, h5⟩ := h
        exact ⟨s_bb cx hn h0 h1 ((iha cx).val _ h4) ((ihb cx).val _ h5) h2 h3, fun _ => rfl⟩
      · cases h
    · cases h
  | isi a cs iha =>
    intro F Wx c sc N ar cm X cx
    refine Res.plain cx (fun md e h => ?_) fun md es h => by unfold chkL at h; cases h
    unfold chk at h
    split at h
    · rename_i x q y z p hd
      obtain ⟨x', q', es', p', ez, rfl⟩ := dCall_ok hd
      cases ez
      simp only [Bool.and_eq_true] at h
      obtain ⟨h0, h1, h2, h3⟩ := h
      unfold isiB at h2
      cases hn : dName z with
      | some zz =>
        obtain ⟨x2, p2, rfl, rfl⟩ := dName_ok hn
        rw [hn] at h2
        dsimp only at h2
        split at h2
        · exact ⟨s_isi1 cx h0 h2 ((iha cx).bor _ h3) h1, fun _ => rfl⟩
        · cases h2
      | none =>
        rw [hn] at h2
        dsimp only at h2
        cases ht : dTup z with
        | none => rw [ht] at h2; cases h2
        | some zz =>
          obtain ⟨es2, k2, p2, rfl, rfl⟩ := dTup_ok ht
          rw [ht] at h2
          simp only [Bool.and_eq_true, decide_eq_true_eq] at h2
          obtain ⟨g1, g2, g3⟩ := h2
          exact ⟨s_isiT cx h0 g1 g3 (fun c e => g2 (by rw [e]; rfl)) ((iha cx).bor _ h3) h1, fun _ => rfl⟩
    · cases h
  | ix a b iha ihb =>
    intro F Wx c sc N ar cm X cx
    refine Res.plain cx (fun md e h => ?_) fun md es h => by unfold chkL at h; cases h
    unfold chk at h
    cases hd : dSub e with
    | none => rw [hd] at h; cases h
    | some z =>
      obtain ⟨l, r, p, rfl, rfl⟩ := dSub_ok hd
      rw [hd] at h
      simp only [Bool.and_eq_true] at h
      obtain ⟨h0, h1, h2⟩ := h
      exact ⟨s_ix cx ((iha cx).bor _ h1) ((ihb cx).val _ h2) h0, fun _ => rfl⟩
  | tupD as iha =>
    intro F Wx c sc N ar cm X cx
    refine Res.plain cx (fun md e h => ?_) fun md es h => by unfold chkL at h; cases h
    unfold chk at h
    cases hd : dTup e with
    | none => rw [hd] at h; cases h
    | some z =>
      obtain ⟨es, k, p, rfl, rfl⟩ := dTup_ok hd
      rw [hd] at h
      obtain ⟨h0, h⟩ := Bool.and_eq_true_iff.mp h
      obtain ⟨g1, g2, g3⟩ := chkL_len h
      exact ⟨s_tup ((iha cx).lst _ h) (of_decide_eq_true h0) (fun w ds w' e => by rw [evEs_len e, g1]), fun _ => rfl⟩
  | lstD as iha =>
    intro F Wx c sc N ar cm X cx
    refine Res.plain cx (fun md e h => ?_) fun md es h => by unfold chkL at h; cases h
    unfold chk at h
    cases hd : dLst e with
    | none => rw [hd] at h; cases h
    | some z =>
      obtain ⟨es, p, rfl, rfl⟩ := dLst_ok hd
      rw [hd] at h
      obtain ⟨h0, h⟩ := Bool.and_eq_true_iff.mp h
      obtain ⟨g1, g2, g3⟩ := chkL_len h
      exact ⟨s_lst ((iha cx).lst _ h) (of_decide_eq_true h0) (fun w ds w' e => by rw [evEs_len e, g1]), fun _ => rfl⟩
  | nil =>
    intro F Wx c sc N ar cm X cx
    have nc : ∀ md e, chk ar cm sc N md .nil e = true → False := fun md e h => by unfold chk at h; cases h
    have emp : ∀ md x es, chkL ar cm sc N md .nil (x :: es) = true → False := fun md x es h => by unfold chkL at h; cases h
    refine ⟨fun e h => (nc _ _ h).elim, fun e h => (nc _ _ h).elim, fun e h => (nc _ _ h).elim, fun es h => ?_, fun x es p h => (emp _ _ _ h).elim, fun x es p h => (emp _ _ _ h).elim, fun x es p h => (emp _ _ _ h).elim, fun x es p h => (emp _ _ _ h).elim⟩
    unfold chkL at h
    rw [List.isEmpty_iff.mp h]
    exact s_nil
  | cons a b iha ihb =>
    intro F Wx c sc N ar cm X cx
    have nc : ∀ md e, chk ar cm sc N md (.cons a b) e = true → False := fun md e h => by unfold chk at h; cases h
    have key : ∀ md x es, chkL ar cm sc N md (.cons a b) (x :: es) = true → head x = true ∧ chk ar cm sc N md a x = true ∧ chkL ar cm sc N md b es = true := fun md x es h => by
      unfold chkL at h
      simp only [Bool.and_eq_true] at h
      exact h
    -- the rest of a list of operands is empty, or begins
    have tl : ∀ {md es}, chkL ar cm sc N md b es = true → (es = [] ∧ b = .nil) ∨ ∃ y ys b2 r2, es = y :: ys ∧ b = .cons b2 r2 := fun {md es} h => by
      cases es with
      | nil => exact .inl ⟨rfl, (chkL_len h).2.2 rfl⟩
      | cons y ys =>
        refine .inr ⟨y, ys, ?_⟩
        cases b with
        | cons b2 r2 => exact ⟨b2, r2, rfl, rfl⟩
        | _ => unfold chkL at h; cases h
    refine ⟨fun e h => (nc _ _ h).elim, fun e h => (nc _ _ h).elim, fun e h => (nc _ _ h).elim, fun es h => ?_, fun x es p h => ?_, fun x es p h => ?_, fun x es p h => ?_, fun x es p h => ?_⟩
    · cases es with
      | nil => unfold chkL at h; cases h
      | cons x es =>
        obtain ⟨h0, h1, h2⟩ := key _ x es h
        exact s_cons h0 ((iha cx).val _ h1) ((ihb cx).lst _ h2)
    · obtain ⟨h0, h1, h2⟩ := key _ x es h
      rcases tl h2 with ⟨rfl, rfl⟩ | ⟨y, ys, b2, r2, rfl, rfl⟩
      · exact s_one ((iha cx).val _ h1)
      · exact s_andV cx ((iha cx).val _ h1) ((ihb cx).andV y ys p h2)
    · obtain ⟨h0, h1, h2⟩ := key _ x es h
      rcases tl h2 with ⟨rfl, rfl⟩ | ⟨y, ys, b2, r2, rfl, rfl⟩
      · exact s_one' ((iha cx).val _ h1)
      · exact s_orV cx ((iha cx).val _ h1) ((ihb cx).orV y ys p h2)
    · obtain ⟨h0, h1, h2⟩ := key _ x es h
      rcases tl h2 with ⟨rfl, rfl⟩ | ⟨y, ys, b2, r2, rfl, rfl⟩
      · exact w_one ((iha cx).tst _ h1)
      · exact w_and ((iha cx).tst _ h1) ((ihb cx).andT y ys p h2)
    · obtain ⟨h0, h1, h2⟩ := key _ x es h
      rcases tl h2 with ⟨rfl, rfl⟩ | ⟨y, ys, b2, r2, rfl, rfl⟩
      · exact w_one' ((iha cx).tst _ h1)
      · exact w_or ((iha cx).tst _ h1) ((ihb cx).orT y ys p h2)
  | nope =>
    intro F Wx c sc N ar cm X cx
    have nl : ∀ md es, chkL ar cm sc N md .nope es = true → False := fun md es h => by unfold chkL at h; cases h
    have bad : ∀ e, PE X e (tE F Wx c .nope) := fun e => pe_weak pe_never fun _ _ _ ⟨_, _, _, q⟩ => q
    exact ⟨fun e _ => bad e, fun e _ => b_of (bad e), fun e _ => ⟨fun _ _ _ _ _ _ q => by obtain ⟨_, _, _, q⟩ := q; exact q.elim⟩, fun es h => (nl _ _ h).elim, fun x es p h => (nl _ _ h).elim, fun x es p h => (nl _ _ h).elim, fun x es p h => (nl _ _ h).elim, fun x es p h => (nl _ _ h).elim⟩
  | attr f a iha =>
    intro F Wx c sc N ar cm X cx
    refine Res.plain cx (fun md e h => ?_) fun md es h => by unfold chkL at h; cases h
    unfold chk at h
    cases hd : dAttr e with
    | none => rw [hd] at h; cases h
    | some z =>
      obtain ⟨l, n, p, rfl, rfl⟩ := dAttr_ok hd
      rw [hd] at h
      simp only [Bool.and_eq_true, decide_eq_true_eq, Bool.not_eq_true'] at h
      obtain ⟨rfl, h1, h2, h3⟩ := h
      exact ⟨s_attr cx h1 h2 ((iha cx).val _ h3), fun _ => rfl⟩
  | dicD as iha =>
    intro F Wx c sc N ar cm X cx
    refine Res.plain cx (fun md e h => ?_) fun md es h => by unfold chkL at h; cases h
    unfold chk at h
    split at h
    · rename_i p hd
      obtain ⟨ks, vs, p', ez, rfl⟩ := dDic_ok hd
      cases ez
      obtain ⟨_, h1⟩ := Bool.and_eq_true_iff.mp h
      have ea := (chkL_len h1).2.2 rfl
      subst ea
      exact ⟨s_dic0, fun _ => rfl⟩
    · cases h
  | callv i fs as iha =>
    intro F Wx c sc N ar cm X cx
    refine Res.plain cx (fun md e h => ?_) fun md es h => by unfold chkL at h; cases h
    unfold chk at h
    split at h
    · rename_i x _ y es _ hd
      obtain ⟨x', q', es', p', ez, rfl⟩ := dCall_ok hd
      cases ez
      obtain ⟨h1, h⟩ := Bool.and_eq_true_iff.mp h
      obtain ⟨h2, h⟩ := Bool.and_eq_true_iff.mp h
      obtain ⟨h3, h4⟩ := Bool.and_eq_true_iff.mp h
      obtain ⟨g1, g2, g3⟩ := chkL_len h4
      exact ⟨s_callv cx h2 h1 h3 ((iha cx).lst _ h4) g2 (fun w ds w' e => by rw [evEs_len e, ← g1]; rfl), fun _ => rfl⟩
    · cases h
  | ask f b iha =>
    intro F Wx c sc N ar cm X cx
    refine Res.plain cx (fun md e h => ?_) fun md es h => by unfold chkL at h; cases h
    unfold chk at h
    cases hd : dLam e with
    | none => rw [hd] at h; cases h
    | some z =>
      obtain ⟨x, q, ps, bd, ls, lp, p, rfl, rfl⟩ := dLam_ok hd
      rw [hd] at h
      simp only [Bool.and_eq_true] at h
      obtain ⟨h1, h2, h3, h4, h5, h6, h7⟩ := h
      exact ⟨s_ask cx h2 h1 h3 h4 h5 h6 (fun cx' => (iha cx').val _ h7), fun _ => rfl⟩
  | slc a b d _ _ _ => intro F Wx c sc N ar cm X cx; exact Res.none (fun md e h => by unfold chk at h; cases h) fun md es h => by unfold chkL at h; cases h
  | hole => intro F Wx c sc N ar cm X cx; exact Res.none (fun md e h => by unfold chk at h; cases h) fun md es h => by unfold chkL at h; cases h
  | comp i a b d _ _ _ => intro F Wx c sc N ar cm X cx; exact Res.none (fun md e h => by unfold chk at h; cases h) fun md es h => by unfold chkL at h; cases h
  | itv a _ => intro F Wx c sc N ar cm X cx; exact Res.none (fun md e h => by unfold chk at h; cases h) fun md es h => by unfold chkL at h; cases h
  | rng1 a _ => intro F Wx c sc N ar cm X cx; exact Res.none (fun md e h => by unfold chk at h; cases h) fun md es h => by unfold chkL at h; cases h
  | rng2 a b _ _ => intro F Wx c sc N ar cm X cx; exact Res.none (fun md e h => by unfold chk at h; cases h) fun md es h => by unfold chkL at h; cases h
end RX

/-! F12: a frame's changes. -/
namespace RX
open PySem PySem.Spec PyProof.Rows
open L2 (Hp V HO VK XK WX upd Cx)

/-- frozen trees stand on -/
def Pers (F : Sf) (ia : List Addr) (w : W) (σ : L2.St) (H : Hp) (ia' : List Addr) (w' : W) (σ' : L2.St) (H' : Hp) : Prop :=
  ∀ d v, Rep F.p ia (Mu F ia w σ) H d v → Rep F.p ia' (Mu F ia' w' σ') H' d v
section
variable {F : Sf} {ia : List Addr} {w w' : W} {σ σ' : L2.St} {H H' : Hp}
theorem Pers.refl : Pers F ia w σ H ia w σ H := fun _ _ h => h
theorem Pers.trans {ia1 ia2 : List Addr} {w1 w2 : W} {σ1 σ2 : L2.St} {H1 H2 : Hp} (a : Pers F ia w σ H ia1 w1 σ1 H1) (b : Pers F ia1 w1 σ1 H1 ia2 w2 σ2 H2) : Pers F ia w σ H ia2 w2 σ2 H2 := fun d v h => b d v (a d v h)
theorem Pers.of (l : Le ia H H') (s : ∀ b, Mu F ia w' σ b → Mu F ia w σ b) : Pers F ia w σ H ia w' σ H' := fun d v h =>
  Rep.on (⟨l, fun b hb => .inr (.inl hb), fun b hb => .inl (s b hb), fun _ _ h => h⟩ : On ia ia (Mu F ia w σ) (Mu F ia w' σ) H H') d v h
def nonOwn : Sl → Bool
  | .own _ => false
  | .len _ => false
  | _ => true
/-- a slot is set to something that is no list of the frame's own -/
theorem Fr.setS (f : Fr F ia w σ H) {i : Nat} {s : Sl} {o : Option V} (hs : nonOwn s = true) (hv : ∀ d, s = .val d → ∃ v, o = some v ∧ Rep F.p ia (Mu F ia w σ) H d v) :
    Fr F ia (setSl w i s) (σ.set i o) H ∧ ∀ a, Mu F ia (setSl w i s) (σ.set i o) a → Mu F ia w σ a := by
  have at_ : ∀ (j : Nat) (e : D), isOwn ((w.sl.set i s)[j]?) e → isOwn (w.sl[j]?) e ∧ j ≠ i := fun j e z => by
    by_cases hj : j = i
    · subst hj
      by_cases hi : j < w.sl.length
      · rw [List.getElem?_set_self hi] at z
        rcases z with z | z <;> (cases z; cases hs)
      · rw [List.getElem?_eq_none (by simp; omega)] at z
        rcases z with z | z <;> cases z
    · rw [List.getElem?_set_ne (Ne.symm hj)] at z
      exact ⟨z, hj⟩
  have sg : ∀ (j : Nat), j ≠ i → (σ.set i o)[j]? = σ[j]? := fun j hj => List.getElem?_set_ne (Ne.symm hj)
  have sub : ∀ a, Mu F ia (setSl w i s) (σ.set i o) a → Mu F ia w σ a := fun a z => by
    rcases z with z | z | ⟨j, e, z, q⟩
    · exact .inl z
    · exact .inr (.inl z)
    · obtain ⟨z1, z2⟩ := at_ j e z
      rw [sg j z2] at q
      exact .inr (.inr ⟨j, e, z1, q⟩)
  have on : On ia ia (Mu F ia w σ) (Mu F ia (setSl w i s) (σ.set i o)) H H := ⟨Le.refl, fun b hb => .inr (.inl hb), fun b hb => .inl (sub b hb), fun _ _ h => h⟩
  refine ⟨⟨f.le, f.tabs, f.io, f.o0, f.pre, f.new, f.ind, f.ilen, fun j b e h1 h2 => (f.cells j b e h1 h2).on on fun _ q => q, fun j e z => ?_, fun j e z => ?_, fun j l b e1 e2 z1 z2 q1 q2 => ?_, ?_, by rw [List.length_set]; exact f.cnt⟩, sub⟩
  · have z' : (w.sl.set i s)[j]? = some (.val e) := z
    by_cases hj : j = i
    · subst hj
      by_cases hi : j < w.sl.length
      · rw [List.getElem?_set_self hi] at z'
        cases z'
        obtain ⟨v, rfl, rv⟩ := hv e rfl
        exact ⟨v, List.getElem?_set_self (by rw [← f.len]; exact hi), Rep.on on e v rv⟩
      · rw [List.getElem?_eq_none (by simp; omega)] at z'
        cases z'
    · rw [List.getElem?_set_ne (Ne.symm hj)] at z'
      obtain ⟨v, q, r⟩ := f.slv j e z'
      exact ⟨v, by rw [sg j hj]; exact q, Rep.on on e v r⟩
  · obtain ⟨z1, z2⟩ := at_ j e z
    obtain ⟨b, q, c, n, m⟩ := f.slo j e z1
    exact ⟨b, by rw [sg j z2]; exact q, c.on on fun _ q => q, n, m⟩
  · obtain ⟨y1, y2⟩ := at_ j e1 z1
    obtain ⟨y3, y4⟩ := at_ l e2 z2
    rw [sg j y2] at q1
    rw [sg l y4] at q2
    exact f.uniq j l b e1 e2 y1 y3 q1 q2
  · show (w.sl.set i s).length = (σ.set i o).length
    rw [List.length_set, List.length_set]
    exact f.len
theorem Pers.sub (s : ∀ a, Mu F ia w' σ' a → Mu F ia w σ a) : Pers F ia w σ H ia w' σ' H := fun d v h =>
  Rep.on (⟨Le.refl, fun b hb => .inr (.inl hb), fun b hb => .inl (s b hb), fun _ _ h => h⟩ : On ia ia (Mu F ia w σ) (Mu F ia w' σ') H H) d v h
theorem FrA.setOwn (g : FrA F ia w σ H a) {i : Nat} {d : D} (hi : i < σ.length) (hc : Cell F.p ia (fun z => Mu F ia w σ z ∨ z = a) H d a) :
    Fr F ia (setSl w i (.own d)) (σ.set i (some (.ref a))) H ∧ ∀ b, Mu F ia (setSl w i (.own d)) (σ.set i (some (.ref a))) b → Mu F ia w σ b ∨ b = a := by
  have f := g.fr
  have hiw : i < w.sl.length := by rw [f.len]; exact hi
  have at_ : ∀ (j : Nat) (e : D), isOwn ((w.sl.set i (.own d))[j]?) e → (j = i ∧ e = d) ∨ (isOwn (w.sl[j]?) e ∧ j ≠ i) := fun j e z => by
    by_cases hj : j = i
    · subst hj
      rw [List.getElem?_set_self hiw] at z
      rcases z with z | z
      · cases z
        exact .inl ⟨rfl, rfl⟩
      · cases z
    · rw [List.getElem?_set_ne (Ne.symm hj)] at z
      exact .inr ⟨z, hj⟩
  have sg : ∀ (j : Nat), j ≠ i → (σ.set i (some (V.ref a)))[j]? = σ[j]? := fun j hj => List.getElem?_set_ne (Ne.symm hj)
  have si : (σ.set i (some (V.ref a)))[i]? = some (some (V.ref a)) := List.getElem?_set_self hi
  have sub : ∀ b, Mu F ia (setSl w i (.own d)) (σ.set i (some (.ref a))) b → Mu F ia w σ b ∨ b = a := fun b z => by
    rcases z with z | z | ⟨j, e, z, q⟩
    · exact .inl (.inl z)
    · exact .inl (.inr (.inl z))
    · rcases at_ j e z with ⟨rfl, rfl⟩ | ⟨z1, z2⟩
      · rw [si] at q
        cases q
        exact .inr rfl
      · rw [sg j z2] at q
        exact .inl (.inr (.inr ⟨j, e, z1, q⟩))
  have on : On ia ia (fun z => Mu F ia w σ z ∨ z = a) (Mu F ia (setSl w i (.own d)) (σ.set i (some (.ref a)))) H H := ⟨Le.refl, fun b hb => .inl (.inr (.inl hb)), fun b hb => .inl (sub b hb), fun _ _ h => h⟩
  refine ⟨⟨f.le, f.tabs, f.io, f.o0, f.pre, f.new, f.ind, f.ilen, fun j b e h1 h2 => (g.cells j b e h1 h2).on on fun _ q => q, fun j e z => ?_, fun j e z => ?_, fun j l b e1 e2 z1 z2 q1 q2 => ?_, ?_, by rw [List.length_set]; exact f.cnt⟩, sub⟩
  · have z' : (w.sl.set i (.own d))[j]? = some (.val e) := z
    by_cases hj : j = i
    · subst hj
      rw [List.getElem?_set_self hiw] at z'
      cases z'
    · rw [List.getElem?_set_ne (Ne.symm hj)] at z'
      obtain ⟨v, q, r⟩ := g.slv j e z'
      exact ⟨v, by rw [sg j hj]; exact q, Rep.on on e v r⟩
  · rcases at_ j e z with ⟨rfl, rfl⟩ | ⟨z1, z2⟩
    · exact ⟨a, si, hc.on on fun _ q => q, g.nH0, g.nia⟩
    · obtain ⟨b, q, c⟩ := g.slo j e z1
      obtain ⟨b', q', _, n, m⟩ := f.slo j e z1
      rw [q] at q'
      cases q'
      exact ⟨b, by rw [sg j z2]; exact q, c.on on fun _ q => q, n, m⟩
  · rcases at_ j e1 z1 with ⟨rfl, rfl⟩ | ⟨y1, y2⟩
    · rw [si] at q1
      cases q1
      rcases at_ l e2 z2 with ⟨rfl, rfl⟩ | ⟨y3, y4⟩
      · rfl
      · rw [sg l y4] at q2
        exact absurd q2 (g.nown l e2 y3)
    · rw [sg j y2] at q1
      rcases at_ l e2 z2 with ⟨rfl, rfl⟩ | ⟨y3, y4⟩
      · rw [si] at q2
        cases q2
        exact absurd q1 (g.nown j e1 y1)
      · rw [sg l y4] at q2
        exact f.uniq j l b e1 e2 y1 y3 q1 q2
  · show (w.sl.set i (.own d)).length = (σ.set i (some (V.ref a))).length
    rw [List.length_set, List.length_set]
    exact f.len
/-- a cell more -/
theorem FrA.setNew (g : FrA F ia w σ H a) {i : Nat} {d : D} (hi : i < σ.length) (hc : Cell F.p ia (fun z => Mu F ia w σ z ∨ z = a) H d a) :
    Fr F (ia ++ [a]) { sl := w.sl.set i (.val (.ref w.cs.length)), cs := w.cs ++ [d] } (σ.set i (some (.ref a))) H ∧
      ∀ b, Mu F (ia ++ [a]) { sl := w.sl.set i (.val (.ref w.cs.length)), cs := w.cs ++ [d] } (σ.set i (some (.ref a))) b → Mu F ia w σ b ∨ b = a := by
  have f := g.fr
  have hiw : i < w.sl.length := by rw [f.len]; exact hi
  have at_ : ∀ (j : Nat) (e : D), isOwn ((w.sl.set i (.val (.ref w.cs.length)))[j]?) e → isOwn (w.sl[j]?) e ∧ j ≠ i := fun j e z => by
    by_cases hj : j = i
    · subst hj
      rw [List.getElem?_set_self hiw] at z
      rcases z with z | z <;> cases z
    · rw [List.getElem?_set_ne (Ne.symm hj)] at z
      exact ⟨z, hj⟩
  have sg : ∀ (j : Nat), j ≠ i → (σ.set i (some (V.ref a)))[j]? = σ[j]? := fun j hj => List.getElem?_set_ne (Ne.symm hj)
  have sub : ∀ b, Mu F (ia ++ [a]) { sl := w.sl.set i (.val (.ref w.cs.length)), cs := w.cs ++ [d] } (σ.set i (some (.ref a))) b → Mu F ia w σ b ∨ b = a := fun b z => by
    rcases z with z | z | ⟨j, e, z, q⟩
    · exact .inl (.inl z)
    · rcases List.mem_append.mp z with z | z
      · exact .inl (.inr (.inl z))
      · exact .inr (List.mem_singleton.mp z)
    · obtain ⟨z1, z2⟩ := at_ j e z
      rw [sg j z2] at q
      exact .inl (.inr (.inr ⟨j, e, z1, q⟩))
  have pre : ∀ (j : Nat) (b : Addr), ia[j]? = some b → (ia ++ [a])[j]? = some b := fun j b h => by
    rw [List.getElem?_append_left (List.getElem?_eq_some_iff.mp h).1]
    exact h
  have on : OnX ia ia (ia ++ [a]) (fun z => Mu F ia w σ z ∨ z = a) (Mu F (ia ++ [a]) { sl := w.sl.set i (.val (.ref w.cs.length)), cs := w.cs ++ [d] } (σ.set i (some (.ref a)))) H H :=
    ⟨Le.refl, fun b hb => .inl (.inr (.inl hb)), fun b hb => .inl (sub b hb), pre⟩
  refine ⟨⟨f.le, f.tabs, f.io, f.o0, fun j b h => pre j b (f.pre j b h), fun b hb => ?_, ?_, ?_, fun j b e h1 h2 => ?_, fun j e z => ?_, fun j e z => ?_, fun j l b e1 e2 z1 z2 q1 q2 => ?_, ?_, by rw [List.length_set]; exact f.cnt⟩, sub⟩
  · rcases List.mem_append.mp hb with z | z
    · exact f.new b z
    · rw [List.mem_singleton.mp z]
      exact .inr g.nH0
  · rw [List.nodup_append]
    exact ⟨f.ind, by simp, fun x hx y hy e => g.nia (by rw [← List.mem_singleton.mp hy, ← e]; exact hx)⟩
  · show (ia ++ [a]).length = (w.cs ++ [d]).length
    rw [List.length_append, List.length_append, f.ilen]
    rfl
  · by_cases hj : j < ia.length
    · rw [List.getElem?_append_left hj] at h1
      have h2' : (w.cs ++ [d])[j]? = some e := h2
      rw [List.getElem?_append_left (by rw [← f.ilen]; exact hj)] at h2'
      exact (g.cells j b e h1 h2').on on fun _ q => q
    · have hj2 : j = ia.length := by
        have := (List.getElem?_eq_some_iff.mp h1).1
        rw [List.length_append] at this
        simp at this
        omega
      subst hj2
      rw [List.getElem?_append_right (Nat.le_refl _), Nat.sub_self] at h1
      have h2' : (w.cs ++ [d])[ia.length]? = some e := h2
      rw [f.ilen, List.getElem?_append_right (Nat.le_refl _), Nat.sub_self] at h2'
      cases h1
      cases h2'
      exact hc.on on fun _ q => q
  · have z' : (w.sl.set i (.val (.ref w.cs.length)))[j]? = some (.val e) := z
    by_cases hj : j = i
    · subst hj
      rw [List.getElem?_set_self hiw] at z'
      cases z'
      refine ⟨.ref a, List.getElem?_set_self hi, ?_⟩
      unfold Rep
      refine ⟨a, ?_, rfl⟩
      rw [← f.ilen, List.getElem?_append_right (Nat.le_refl _), Nat.sub_self]
      rfl
    · rw [List.getElem?_set_ne (Ne.symm hj)] at z'
      obtain ⟨v, q, r⟩ := g.slv j e z'
      exact ⟨v, by rw [sg j hj]; exact q, Rep.on on e v r⟩
  · obtain ⟨z1, z2⟩ := at_ j e z
    obtain ⟨b, q, c⟩ := g.slo j e z1
    obtain ⟨b', q', _, n, m⟩ := f.slo j e z1
    rw [q] at q'
    cases q'
    refine ⟨b, by rw [sg j z2]; exact q, c.on on fun _ q => q, n, fun z => ?_⟩
    rcases List.mem_append.mp z with z | z
    · exact m z
    · rw [List.mem_singleton.mp z] at q
      exact g.nown j e z1 q
  · obtain ⟨y1, y2⟩ := at_ j e1 z1
    obtain ⟨y3, y4⟩ := at_ l e2 z2
    rw [sg j y2] at q1
    rw [sg l y4] at q2
    exact f.uniq j l b e1 e2 y1 y3 q1 q2
  · show (w.sl.set i _).length = (σ.set i (some (V.ref a))).length
    rw [List.length_set, List.length_set]
    exact f.len
end
end RX

/-! F13: mutable things changed; new things. -/
namespace RX
open PySem PySem.Spec PyProof.Rows
open L2 (Hp V HO VK XK WX upd Cx OpR R2 PE PT PA TE TA TT Gl Vis Inv EP PW CallR IxR)
def mutO : HO → Bool
  | .lst _ => true
  | .dK _ => true
  | _ => false
theorem Le.write {ex : List Addr} {H : Hp} {a : Addr} {u o : HO} (h : H a = some u) (hu : mutO u = true) (ha : a ∈ ex) (ho : ∀ ps, o ≠ .tbl ps) : Le ex H (upd H a o) := by
  have ne : ∀ b x, H b = some x → mutO x = false → b ≠ a := fun b x e m z => by
    rw [z, h] at e
    cases e
    rw [hu] at m
    cases m
  refine ⟨fun b x e n _ => ?_, fun b xs e => ?_, fun b x y e => ?_, fun b e => ?_⟩
  · rw [L2.upd_ne (show b ≠ a from fun z => n (by rw [z]; exact ha))]
    exact e
  · rw [L2.upd_ne (ne b _ e rfl)]
    exact e
  · rw [L2.upd_ne (ne b _ e rfl)]
    exact e
  · by_cases hb : b = a
    · subst hb
      obtain ⟨ps, q⟩ := e o L2.upd_same
      exact absurd q (ho ps)
    · exact fun x q => e x ((L2.upd_ne hb).trans q)
theorem Cell.notT {p : Pm} {ia : List Addr} {O : Addr → Prop} {H : Hp} {d : D} {a : Addr} {o : HO} (h : Cell p ia O (upd H a o) d a) : ∀ ps, o ≠ .tbl ps := by
  obtain ⟨u, e, t⟩ := h.some_
  rw [L2.upd_same] at e
  cases e
  exact t
theorem Cell.mut {p : Pm} {ia : List Addr} {O : Addr → Prop} {H : Hp} {d : D} {a : Addr} (h : Cell p ia O H d a) : ∃ u, H a = some u ∧ mutO u = true := by
  cases d with
  | lst ds =>
    obtain ⟨vs, e, _⟩ := h
    exact ⟨_, e, rfl⟩
  | dic ds =>
    obtain ⟨vs, e, _⟩ := h
    exact ⟨_, e, rfl⟩
  | _ => exact h.elim
theorem tabs_write {T : List (Addr × Str)} {H : Hp} {a : Addr} {u o : HO} (t : LamX.Tabs T H) (h : H a = some u) (hu : mutO u = true) : LamX.Tabs T (upd H a o) := fun q hq => by
  obtain ⟨ps, h1, h2, h3⟩ := t q hq
  refine ⟨ps, ?_, h2, fun pos cv hc => ?_⟩
  · rw [L2.upd_ne]
    · exact h1
    · intro z
      rw [z, h] at h1
      cases h1
      cases hu
  · obtain ⟨c, e1, e2⟩ := h3 pos cv hc
    refine ⟨c, e1, ?_⟩
    rw [L2.upd_ne]
    · exact e2
    · intro z
      rw [z, h] at e2
      cases e2
      cases hu
section
variable {F : Sf} {ia : List Addr} {w w' : W} {σ σ' : L2.St} {H H' : Hp} {a : Addr}
/-- the list (dict) of slot i is changed -/
theorem Fr.modOwn (f : Fr F ia w σ H) {i : Nat} {d d' : D} {o : HO} (h : w.sl[i]? = some (.own d)) (ea : σ[i]? = some (some (.ref a))) (hc : Cell F.p ia (Mu F ia w σ) (upd H a o) d' a) :
    Fr F ia (setSl w i (.own d')) σ (upd H a o) ∧ Pers F ia w σ H ia (setSl w i (.own d')) σ (upd H a o) := by
  have hi : i < w.sl.length := (List.getElem?_eq_some_iff.mp h).1
  obtain ⟨b, eb, cb, nb, mb⟩ := f.slo i d (.inl h)
  rw [ea] at eb
  cases eb
  obtain ⟨u, hu, hm⟩ := cb.mut
  have at_ : ∀ (j : Nat) (e : D), isOwn ((w.sl.set i (.own d'))[j]?) e → (j = i ∧ e = d') ∨ (isOwn (w.sl[j]?) e ∧ j ≠ i) := fun j e z => by
    by_cases hj : j = i
    · subst hj
      rw [List.getElem?_set_self hi] at z
      rcases z with z | z
      · cases z
        exact .inl ⟨rfl, rfl⟩
      · cases z
    · rw [List.getElem?_set_ne (Ne.symm hj)] at z
      exact .inr ⟨z, hj⟩
  have em : ∀ z, Mu F ia (setSl w i (.own d')) σ z → Mu F ia w σ z := fun z q => by
    rcases q with q | q | ⟨j, e, q, r⟩
    · exact .inl q
    · exact .inr (.inl q)
    · rcases at_ j e q with ⟨rfl, rfl⟩ | ⟨q1, _⟩
      · exact .inr (.inr ⟨_, d, .inl h, r⟩)
      · exact .inr (.inr ⟨j, e, q1, r⟩)
  have ma : Mu F ia w σ a := .inr (.inr ⟨i, d, .inl h, ea⟩)
  have lx : Le (a :: ia) H (upd H a o) := Le.write hu hm (by simp) hc.notT
  have on : OnX (a :: ia) ia ia (Mu F ia w σ) (Mu F ia (setSl w i (.own d')) σ) H (upd H a o) := ⟨lx, fun b hb => by
    rcases List.mem_cons.mp hb with e | e
    · rw [e]
      exact ma
    · exact .inr (.inl e), fun b hb => .inl (em b hb), fun _ _ h => h⟩
  have kp : ∀ b, b ≠ a → ∀ u, H b = some u → upd H a o b = some u := fun b hb u e => by
    rw [L2.upd_ne hb]
    exact e
  have on2 : OnX ia ia ia (Mu F ia w σ) (Mu F ia (setSl w i (.own d')) σ) (upd H a o) (upd H a o) := ⟨Le.refl, fun b hb => .inr (.inl hb), fun b hb => .inl (em b hb), fun _ _ h => h⟩
  refine ⟨⟨⟨fun b x e n t => ?_, fun b xs e => lx.tups b xs (f.le.tups b xs e), fun b x y e => lx.frzs b x y (f.le.frzs b x y e), fun b e => f.le.dom b (lx.dom b e)⟩, tabs_write f.tabs hu hm, f.io, f.o0, f.pre, f.new, f.ind, f.ilen, fun j b e h1 h2 => ?_, fun j e z => ?_, fun j e z => ?_, fun j l b e1 e2 z1 z2 q1 q2 => ?_, ?_, f.cnt⟩, fun e v r => Rep.on on e v r⟩
  · rw [L2.upd_ne (show b ≠ a from fun z => Nt.not (by rw [← z]; exact e) t nb)]
    exact f.le.keep b x e n t
  · exact (f.cells j b e h1 h2).on on (kp b fun z => mb (z ▸ List.mem_of_getElem? h1))
  · have z' : (w.sl.set i (.own d'))[j]? = some (.val e) := z
    by_cases hj : j = i
    · subst hj
      rw [List.getElem?_set_self hi] at z'
      cases z'
    · rw [List.getElem?_set_ne (Ne.symm hj)] at z'
      obtain ⟨v, q, r⟩ := f.slv j e z'
      exact ⟨v, q, Rep.on on e v r⟩
  · rcases at_ j e z with ⟨rfl, rfl⟩ | ⟨z1, z2⟩
    · exact ⟨a, ea, hc.on on2 fun _ q => q, nb, mb⟩
    · obtain ⟨b, q, c, n, m⟩ := f.slo j e z1
      exact ⟨b, q, c.on on (kp b fun z => z2 (f.uniq j i a e d z1 (.inl h) (z ▸ q) ea)), n, m⟩
  · have b1 : isOwn (w.sl[j]?) (if j = i then d else e1) := by
      rcases at_ j e1 z1 with ⟨rfl, rfl⟩ | ⟨y1, y2⟩
      · rw [if_pos rfl]
        exact .inl h
      · rw [if_neg y2]
        exact y1
    have b2 : isOwn (w.sl[l]?) (if l = i then d else e2) := by
      rcases at_ l e2 z2 with ⟨rfl, rfl⟩ | ⟨y1, y2⟩
      · rw [if_pos rfl]
        exact .inl h
      · rw [if_neg y2]
        exact y1
    exact f.uniq j l b _ _ b1 b2 q1 q2
  · show (w.sl.set i (.own d')).length = σ.length
    rw [List.length_set]
    exact f.len
/-- a cell is changed -/
theorem Fr.modCell (f : Fr F ia w σ H) {j : Nat} {d d' : D} {o : HO} (ea : ia[j]? = some a) (h : w.cs[j]? = some d) (hc : Cell F.p ia (Mu F ia w σ) (upd H a o) d' a) :
    Fr F ia { w with cs := w.cs.set j d' } σ (upd H a o) ∧ Pers F ia w σ H ia { w with cs := w.cs.set j d' } σ (upd H a o) := by
  obtain ⟨u, hu, hm⟩ := (f.cells j a d ea h).mut
  have ha : a ∈ ia := List.mem_of_getElem? ea
  have lx : Le ia H (upd H a o) := Le.write hu hm ha hc.notT
  have hj : j < w.cs.length := (List.getElem?_eq_some_iff.mp h).1
  have on := f.on lx
  refine ⟨f.called lx (tabs_write f.tabs hu hm) ⟨by rw [List.length_set]; exact f.ilen, f.ind, fun i b e h1 h2 => ?_⟩, fun e v r => Rep.on on e v r⟩
  by_cases hi : i = j
  · subst hi
    rw [List.getElem?_set_self hj] at h2
    cases h2
    rw [ea] at h1
    cases h1
    exact hc
  · rw [List.getElem?_set_ne (Ne.symm hi)] at h2
    refine (f.cells i b e h1 h2).on on fun u e => ?_
    rw [L2.upd_ne]
    · exact e
    · intro z
      rw [z] at h1
      exact hi (by
        obtain ⟨x1, y1⟩ := List.getElem?_eq_some_iff.mp h1
        obtain ⟨x2, y2⟩ := List.getElem?_eq_some_iff.mp ea
        exact (List.getElem_inj f.ind).mp (y1.trans y2.symm))
end
end RX

/-! F14: new things as values; what is wanted behind a statement. -/
namespace RX
open PySem PySem.Spec PyProof.Rows
open L2 (Hp V HO VK XK WX upd Cx OpR R2 PE PT PA TE TA TT Gl Vis Inv EP PW CallR IxR Ends TS PS PSs Loc)
def PostF (F : Sf) (Wx : WX) (σ : L2.St) (ia : List Addr) (w : W) (H : Hp) (r : R (D × Bool)) (Q : VK) : Prop :=
  match r with
  | .ok p w' => ∀ v H', Fr F ia w' σ H' → Le ia H H' → (∀ b, Mu F ia w' σ b → Mu F ia w σ b) → Rep F.p ia (Mu F ia w' σ) H' p.1 v → (p.2 = true → isSeq p.1 = true → NewA F ia w' σ H H' p.1 v) → Q v H'
  | .ex C fs w' => ∀ cls dd H', Fr F ia w' σ H' → Le ia H H' → (∀ b, Mu F ia w' σ b → Mu F ia w σ b) → ExRel F.p ia (Mu F ia w' σ) H' C fs cls dd → Wx cls dd σ H'
  | .bad => False
def tF (F : Sf) (Wx : WX) (c : Ct) (m : E) : TE := fun σ H Q => ∃ ia w, Fr F ia w σ H ∧ PostF F Wx σ ia w H (frE c m w) Q
section
variable {F : Sf} {Wx : WX} {c : Ct} {sc : Scope} {N : List Str} {ar : String → Nat → Bool} {cm : Bool} {X : Cx} {m a b d : E} {e l r : Expr}
theorem NewA.base {ia : List Addr} {w : W} {σ : L2.St} {H H1 H' : Hp} {d : D} {v : V} (h : NewA F ia w σ H1 H' d v) (l : Le ia H H1) : NewA F ia w σ H H' d v := by
  obtain ⟨a, e, h1, h2⟩ := h
  exact ⟨a, e, l.dom a h1, h2⟩
/-- no news of freshness -/
theorem f_plain (h : PE X e (tE F Wx c m)) (hm : ∀ w, frE c m w = (evE c m w).bind fun d w1 => .ok (d, false) w1) : PE X e (tF F Wx c m) := pe_weak h fun σ H Q ⟨ia, w, f, q⟩ => ⟨ia, w, f, by
  rw [hm w] at q
  revert q
  cases evE c m w with
  | ok d w1 => exact fun q v H' f1 l1 s1 r1 => q v H' f1 l1 s1 r1 fun z => by cases z
  | ex C fs w1 => exact fun q => q
  | bad => exact fun q => q⟩
/-- the value's tree is no list -/
theorem f_weak (h : PE X e (tF F Wx c m)) : PE X e (tF F Wx c m) := h
theorem sF_lst {es : List Expr} {pos : Pos} {as : E} (h : PA X es (tEs F Wx c as)) (hz : es.length ≤ 1000) (hl : ∀ w ds w', evEs c as w = .ok ds w' → ds.length = es.length) : PE X (.List es pos) (tF F Wx c (.lstD as)) :=
  pe_weak (L2.pe_lst h) fun σ H Q ⟨ia, w, f, q⟩ => by
    have q' : PostF F Wx σ ia w H (((evEs c as w).bind fun ds w1 => .ok (D.lst ds) w1).bind fun d w1 => .ok (d, true) w1) Q := q
    refine ⟨ia, w, f, ?_⟩
    revert q'
    cases he : evEs c as w with
    | ok ds w1 =>
      intro q' vs H1 f1 l1 s1 r1
      have r1' : Reps F.p ia (Mu F ia w1 σ) H1 ds vs := r1
      refine ⟨by rw [r1'.length, hl w ds w1 he, sizeLine_eq]; omega, ThenN.lst (fun v H' f2 l2 r2 n2 => ?_) f1 r1'⟩
      exact q' v H' f2 (l1.trans l2) s1 r2 fun _ z => (n2 z).base l1
    | ex C fs w' => exact fun q => q
    | bad => exact fun q => q
theorem sF_bin (cx : Cxt F Wx c sc N ar cm X) {pos : Pos} (ha : PE X l (tB F Wx c a)) (hb : PE X r (tB F Wx c b)) : PE X (.BinOp l .Add r pos) (tF F Wx c (.bin .Add a b)) :=
  pe_weak (L2.pe_op (binR_ok .Add) ha hb) fun σ H Q ⟨ia, w, f, q⟩ => by
    have q' : PostF F Wx σ ia w H (((evE c a w).bind fun x w1 => (evE c b w1).bind fun y w2 => opt (binop .Add (dr w2 x) (dr w2 y)) w2).bind fun d w1 => .ok (d, true) w1) Q := q
    refine ⟨ia, w, f, ?_⟩
    revert q'
    cases he : evE c a w with
    | ok x w1 =>
      intro q' v H1 f1 l1 s1 r1
      refine ⟨ia, w1, f1, ?_⟩
      revert q'
      show PostF F Wx σ ia w H (((evE c b w1).bind fun y w2 => opt (binop .Add (dr w2 x) (dr w2 y)) w2).bind fun d w1 => .ok (d, true) w1) Q → _
      cases he2 : evE c b w1 with
      | ok y w2 =>
        intro q' u H2 f2 l2 s2 r2
        have o1 : On ia ia (Mu F ia w1 σ) (Mu F ia w2 σ) H1 H2 := ⟨l2, fun b hb => .inr (.inl hb), fun b hb => .inl (s2 b hb), fun _ _ h => h⟩
        cases hz : binop .Add (dr w2 x) (dr w2 y) with
        | none =>
          have q2 : PostF F Wx σ ia w H ((opt (binop .Add (dr w2 x) (dr w2 y)) w2).bind fun d w1 => .ok (d, true) w1) Q := q'
          rw [hz] at q2
          exact q2.elim
        | some z =>
          have q2 : PostF F Wx σ ia w H ((opt (binop .Add (dr w2 x) (dr w2 y)) w2).bind fun d w1 => .ok (d, true) w1) Q := q'
          rw [hz] at q2
          exact binR_of hz f2 (f2.dr (r1.on o1).b) (f2.dr r2.b) fun v' H' f3 l3 r3 n3 => q2 v' H' f3 ((l1.trans l2).trans l3) (fun b z => s1 b (s2 b z)) r3 fun _ z => (n3 z).base (l1.trans l2)
      | ex C fs w' => exact fun q cls dd H' f2 l2 s2 r2 => q cls dd H' f2 (l1.trans l2) (fun b z => s1 b (s2 b z)) r2
      | bad => exact fun q => q
    | ex C fs w' => exact fun q => q
    | bad => exact fun q => q
theorem sF_list (cx : Cxt F Wx c sc N ar cm X) {x : Str} {q p : Pos} (hx : gnB sc "list" x = true) (hcm : cm = true) (ha : PE X l (tB F Wx c a)) (hh : head l = true) : PE X (.Call (.Name x q) [l] [] p) (tF F Wx c (.bu .list a)) := by
  obtain ⟨rfl, g1, g2, g3⟩ := gn_ok hx
  obtain ⟨h1, h2⟩ := b1R_okT (X := X) (f := .list) rfl rfl fun e => cx.calm hcm
  refine pe_weak (L2.pe_callTy h1 (cx_gl cx g1) (cx.blt "list" (by decide)) h2 (pa_one ha hh) g3 g2 (star_head hh) rfl) fun σ H Q ⟨ia, w, f, q⟩ => ?_
  have q' : PostF F Wx σ ia w H (((evE c a w).bind fun x w1 => opt (b1 .list (dr w1 x)) w1).bind fun d w1 => .ok (d, true) w1) Q := q
  refine ⟨ia, w, f, ?_⟩
  revert q'
  cases he : evE c a w with
  | ok x w1 =>
    intro q' v H1 f1 l1 s1 r1
    have q2 : PostF F Wx σ ia w H ((opt (b1 .list (dr w1 x)) w1).bind fun d w1 => .ok (d, true) w1) Q := q'
    cases hz : b1 .list (dr w1 x) with
    | none =>
      rw [hz] at q2
      exact q2.elim
    | some z =>
      rw [hz] at q2
      exact b1R_of rfl cx.hK hz f1 (f1.dr r1.b) fun v' H' f3 l3 r3 n3 => q2 v' H' f3 (l1.trans l3) s1 r3 fun _ z => (n3 z).base l1
  | ex C fs w' => exact fun q => q
  | bad => exact fun q => q
/-- a call's value with its freshness -/
theorem tail_callF {σ : L2.St} {ia : List Addr} {w w1 : W} {H H1 : Hp} {Q : VK} {ds : List D} {vs : List V} {rc : CR} (f1 : Fr F ia w1 σ H1) (l1 : Le ia H H1) (s1 : ∀ b, Mu F ia w1 σ b → Mu F ia w σ b) (r1 : Reps F.p ia (Mu F ia w1 σ) H1 ds vs)
    (h1 : PostF F Wx σ ia w H (match rc with
      | .ok d fr cs => .ok (d, fr) { w1 with cs := cs }
      | .ex C fs cs => .ex C fs { w1 with cs := cs }
      | .bad => .bad) Q) : PreC F.p F.T vs ds w1.cs H1 rc Q (L2.WE Wx σ) := by
  refine ⟨ia, Mu F ia w1 σ, fun a h => .inr (.inl h), f1.mu, f1.tabs, f1.cok, r1, ?_⟩
  cases rc with
  | ok d fr cs =>
    intro v H' l t ck rp nw
    refine h1 v H' (f1.called l t ck) (l1.trans l) s1 rp fun hf hs => ?_
    obtain ⟨a, e, ha, hc, ck2⟩ := nw hf hs
    exact NewA.base ⟨a, e, ha, f1.toA (f1.called l t ck) l ha rfl ck2.2.2, hc⟩ l1
  | ex C fs cs => exact fun cls dd H' l t ck xr => h1 cls dd H' (f1.called l t ck) (l1.trans l) s1 xr
  | bad => exact h1
theorem sF_call (cx : Cxt F Wx c sc N ar cm X) {f : String} {x : Str} {q p : Pos} {es : List Expr} {as : E} (hx : gnB sc f x = true) (hcm : cm = true) (har : (decide (es.length < 900) && ar f es.length) = true) (h : PA X es (tEs F Wx c as)) (hs : ∀ e ∈ es, head e = true)
    (hl : ∀ w ds w', evEs c as w = .ok ds w' → ds.length = es.length) (hnil : es = [] → as = .nil) : PE X (.Call (.Name x q) es [] p) (tF F Wx c (.call f as)) := by
  obtain ⟨rfl, g1, g2, g3⟩ := gn_ok hx
  obtain ⟨fa, fd, ps, k, sp, dvs, dvals, hm, hk, hr, FN, hb, hd, hsp⟩ := cx.call hcm f es.length (of_decide_eq_true (Bool.and_eq_true_iff.mp har).1) (Bool.and_eq_true_iff.mp har).2
  have key : ∀ σ H Q, tF F Wx c (.call f as) σ H Q → tEs F Wx c as σ H fun vs H1 => sp (vs ++ dvs) H1 Q (L2.WE Wx σ) := fun σ H Q ⟨ia, w, fr, q⟩ => by
    refine ⟨ia, w, fr, ?_⟩
    revert q
    show PostF F Wx σ ia w H ((evEs c as w).bind fun ds w1 => match c.call f ds w1.cs with
      | .ok d fr cs => .ok (d, fr) { w1 with cs := cs }
      | .ex C fs cs => .ex C fs { w1 with cs := cs }
      | .bad => .bad) Q → _
    cases he : evEs c as w with
    | ok ds w1 =>
      intro q' vs H1 f1 l1 s1 r1
      exact hsp ds w1.cs vs H1 Q _ (hl w ds w1 he) (tail_callF f1 l1 s1 r1 q')
    | ex C fs w' => exact fun q => q
    | bad => exact fun q => q
  cases es with
  | nil =>
    have ea : as = .nil := hnil rfl
    subst ea
    refine ⟨fun pins s σ H Q I ⟨ia, w, fr, pq⟩ => ?_⟩
    refine wpAny_Call_Name_kw (L2.ld_glob I (cx_gl cx g1) hm ?_ g2)
    refine PySem.W.callWith_K0 I.kIn hk (L2.run_fnSD (E := L2.WE Wx) (us := []) (vs := []) FN hr hb hd (L2.passAt cx.tk σ) I .nil ?_)
    exact hsp [] w.cs [] H Q _ rfl (tail_callF (w := w) fr Le.refl (fun _ z => z) (by unfold Reps; rfl) pq)
  | cons e es =>
    exact pe_weak (L2.pe_callSD (E := L2.WE Wx) FN hr (cx_gl cx g1) hm hk hb hd (fun σ => L2.passAt cx.tk σ) h g2 (star_head (hs e List.mem_cons_self)) (by
      have : ∀ l : List Expr, (∀ e ∈ l, head e = true) → (backTo p (starEach l X.env)).any (·.1) = false := fun l => by
        induction l with
        | nil => intro _; rfl
        | cons y ys ih =>
          intro hy
          rw [star_head (hy y List.mem_cons_self)]
          exact ih fun z hz => hy z (List.mem_cons_of_mem _ hz)
      exact this es fun z hz => hs z (List.mem_cons_of_mem _ hz))) key
/-- every checked expression, with its freshness -/
theorem sound_F (cx : Cxt F Wx c sc N ar cm X) : ∀ (m : E) (e : Expr), chk ar cm sc N .val m e = true → PE X e (tF F Wx c m) := fun m e h => by
  have pl := (sound_E m cx).val e h
  cases m with
  | call f as =>
    unfold chk at h
    cases hd : dCall e with
    | none => rw [hd] at h; cases h
    | some z =>
      obtain ⟨x, q, es, p, rfl, rfl⟩ := dCall_ok hd
      rw [hd] at h
      obtain ⟨h0, h⟩ := Bool.and_eq_true_iff.mp h
      obtain ⟨h1, h⟩ := Bool.and_eq_true_iff.mp h
      obtain ⟨h2, h3⟩ := Bool.and_eq_true_iff.mp h
      obtain ⟨g1, g2, g3⟩ := chkL_len h3
      exact sF_call cx h0 h1 h2 ((sound_E as cx).lst _ h3) g2 (fun w ds w' e => by rw [evEs_len e, g1]) g3
  | lstD as =>
    unfold chk at h
    cases hd : dLst e with
    | none => rw [hd] at h; cases h
    | some z =>
      obtain ⟨es, p, rfl, rfl⟩ := dLst_ok hd
      rw [hd] at h
      obtain ⟨h0, h⟩ := Bool.and_eq_true_iff.mp h
      obtain ⟨g1, g2, g3⟩ := chkL_len h
      exact sF_lst ((sound_E as cx).lst _ h) (of_decide_eq_true h0) (fun w ds w' e => by rw [evEs_len e, g1])
  | bin o a b =>
    cases o with
    | Add =>
      unfold chk at h
      cases hd : dBin e with
      | none => rw [hd] at h; cases h
      | some z =>
        obtain ⟨l, op, r, p, rfl, rfl⟩ := dBin_ok hd
        rw [hd] at h
        simp only [Bool.and_eq_true, decide_eq_true_eq] at h
        obtain ⟨rfl, h1, h2⟩ := h
        exact sF_bin cx ((sound_E a cx).bor _ h1) ((sound_E b cx).bor _ h2)
    | _ => exact f_plain pl fun _ => rfl
  | bu f a =>
    cases f with
    | list =>
      unfold chk at h
      split at h
      · rename_i x q y p hd
        obtain ⟨x', q', es', p', ez, rfl⟩ := dCall_ok hd
        cases ez
        simp only [bltOf, Bool.and_eq_true, Bool.or_eq_true, decide_eq_true_eq] at h
        obtain ⟨h0, h1, h2, h3⟩ := h
        exact sF_list cx h0 (h2.elim (fun z => z) fun z => absurd rfl z) ((sound_E a cx).bor _ h3) h1
      · split at h
        · simp at h
        · cases h
    | lvals =>
      exfalso
      unfold chk at h
      split at h
      · cases h
      · split at h
        · simp at h
        · cases h
    | rev =>
      exfalso
      unfold chk at h
      split at h
      · cases h
      · split at h
        · simp at h
        · cases h
    | _ => exact f_plain pl fun _ => rfl
  | comp _ _ _ _ =>
    unfold chk at h
    cases h
  | slc _ _ _ =>
    unfold chk at h
    cases h
  | dicD as =>
    unfold chk at h
    split at h
    · rename_i p hd
      obtain ⟨ks, vs, p', ez, rfl⟩ := dDic_ok hd
      cases ez
      obtain ⟨_, h1⟩ := Bool.and_eq_true_iff.mp h
      have ea := (chkL_len h1).2.2 rfl
      subst ea
      refine pe_weak L2.pe_dnewK fun σ H Q ⟨ia, w, fr, q⟩ a ha => ?_
      have q' : PostF F Wx σ ia w H (.ok (.dic [], true) w) Q := q
      have hc : Cell F.p ia (fun z => Mu F ia w σ z ∨ z = a) (upd H a (.dK [])) (.dic []) a := ⟨[], L2.upd_same, by unfold RepKs; rfl⟩
      refine q' (.ref a) _ (fr.alloc ha) (Le.alloc ha) (fun _ z => z) ?_ fun _ _ => ⟨a, rfl, Nt.none ha, fr.allocA ha, hc⟩
      show Rep _ _ _ _ _ _
      unfold Rep
      exact ⟨a, [], rfl, L2.upd_same, fr.fresh ha, by unfold RepKs; rfl⟩
    · cases h
  | _ => exact f_plain pl fun _ => rfl
end
end RX

/-! F15: statements taken apart, what is wanted behind them. -/
namespace RX
open PySem PySem.Spec PyProof.Rows
open L2 (Hp V HO VK XK WX upd Cx OpR R2 PE PT PA TE TA TT Gl Vis Inv EP PW CallR IxR Ends TS PS PSs Loc PMk)
def gAsg : Stmt → Option (Str × Pos × Expr × Pos)
  | .Assign [.Name x p] e q => some (x, p, e, q)
  | _ => none
theorem gAsg_ok {st : Stmt} {z : Str × Pos × Expr × Pos} (h : gAsg st = some z) : ∃ x p e q, z = (x, p, e, q) ∧ st = .Assign [.Name x p] e q := by
  unfold gAsg at h
  split at h
  · cases h
    exact ⟨_, _, _, _, rfl, rfl⟩
  · cases h
def gAsgT : Stmt → Option (List Expr × Nat × Pos × Expr × Pos)
  | .Assign [.Tuple ts k p] e q => some (ts, k, p, e, q)
  | _ => none
theorem gAsgT_ok {st : Stmt} {z : List Expr × Nat × Pos × Expr × Pos} (h : gAsgT st = some z) : ∃ ts k p e q, z = (ts, k, p, e, q) ∧ st = .Assign [.Tuple ts k p] e q := by
  unfold gAsgT at h
  split at h
  · cases h
    exact ⟨_, _, _, _, _, rfl, rfl⟩
  · cases h
def gPar : Stmt → Option (Str × Pos × Str × Pos × Nat × Pos × Expr × Expr × Nat × Pos × Pos)
  | .Assign [.Tuple [.Name x px, .Name y py] kt pt] (.Tuple [a, b] k2 p2) q => some (x, px, y, py, kt, pt, a, b, k2, p2, q)
  | _ => none
theorem gPar_ok {st : Stmt} {z : Str × Pos × Str × Pos × Nat × Pos × Expr × Expr × Nat × Pos × Pos} (h : gPar st = some z) : ∃ x px y py kt pt a b k2 p2 q, z = (x, px, y, py, kt, pt, a, b, k2, p2, q) ∧ st = .Assign [.Tuple [.Name x px, .Name y py] kt pt] (.Tuple [a, b] k2 p2) q := by
  unfold gPar at h
  split at h
  · cases h
    exact ⟨_, _, _, _, _, _, _, _, _, _, _, rfl, rfl⟩
  · cases h
def gSet : Stmt → Option (Str × Pos × Expr × Pos × Expr × Pos)
  | .Assign [.Subscript (.Name x p) i p1] e q => some (x, p, i, p1, e, q)
  | _ => none
theorem gSet_ok {st : Stmt} {z : Str × Pos × Expr × Pos × Expr × Pos} (h : gSet st = some z) : ∃ x p i p1 e q, z = (x, p, i, p1, e, q) ∧ st = .Assign [.Subscript (.Name x p) i p1] e q := by
  unfold gSet at h
  split at h
  · cases h
    exact ⟨_, _, _, _, _, _, rfl, rfl⟩
  · cases h
def gApp : Stmt → Option (Str × Pos × Str × Pos × Expr × Pos × Pos)
  | .Expr (.Call (.Attribute (.Name x p) m p1) [e] [] p2) q => some (x, p, m, p1, e, p2, q)
  | _ => none
theorem gApp_ok {st : Stmt} {z : Str × Pos × Str × Pos × Expr × Pos × Pos} (h : gApp st = some z) : ∃ x p m p1 e p2 q, z = (x, p, m, p1, e, p2, q) ∧ st = .Expr (.Call (.Attribute (.Name x p) m p1) [e] [] p2) q := by
  unfold gApp at h
  split at h
  · cases h
    exact ⟨_, _, _, _, _, _, _, rfl, rfl⟩
  · cases h
def gExpr : Stmt → Option (Expr × Pos)
  | .Expr e q => some (e, q)
  | _ => none
theorem gExpr_ok {st : Stmt} {z : Expr × Pos} (h : gExpr st = some z) : ∃ e q, z = (e, q) ∧ st = .Expr e q := by
  unfold gExpr at h
  split at h
  · cases h
    exact ⟨_, _, rfl, rfl⟩
  · cases h
def gIf : Stmt → Option (Expr × List Stmt × List Stmt × Pos)
  | .If c a b q => some (c, a, b, q)
  | _ => none
theorem gIf_ok {st : Stmt} {z : Expr × List Stmt × List Stmt × Pos} (h : gIf st = some z) : ∃ c a b q, z = (c, a, b, q) ∧ st = .If c a b q := by
  unfold gIf at h
  split at h
  · cases h
    exact ⟨_, _, _, _, rfl, rfl⟩
  · cases h
def gWhl : Stmt → Option (Expr × List Stmt × Pos)
  | .While c a [] q => some (c, a, q)
  | _ => none
theorem gWhl_ok {st : Stmt} {z : Expr × List Stmt × Pos} (h : gWhl st = some z) : ∃ c a q, z = (c, a, q) ∧ st = .While c a [] q := by
  unfold gWhl at h
  split at h
  · cases h
    exact ⟨_, _, _, rfl, rfl⟩
  · cases h
def gFor : Stmt → Option (Expr × Expr × List Stmt × Pos)
  | .For t i a [] q => some (t, i, a, q)
  | _ => none
theorem gFor_ok {st : Stmt} {z : Expr × Expr × List Stmt × Pos} (h : gFor st = some z) : ∃ t i a q, z = (t, i, a, q) ∧ st = .For t i a [] q := by
  unfold gFor at h
  split at h
  · cases h
    exact ⟨_, _, _, _, rfl, rfl⟩
  · cases h
def gRet : Stmt → Option (Expr × Pos)
  | .Return (some e) q => some (e, q)
  | _ => none
theorem gRet_ok {st : Stmt} {z : Expr × Pos} (h : gRet st = some z) : ∃ e q, z = (e, q) ∧ st = .Return (some e) q := by
  unfold gRet at h
  split at h
  · cases h
    exact ⟨_, _, rfl, rfl⟩
  · cases h
def gRetN : Stmt → Option (Pos)
  | .Return none q => some q
  | _ => none
theorem gRetN_ok {st : Stmt} {z : Pos} (h : gRetN st = some z) : ∃ q, z = q ∧ st = .Return none q := by
  unfold gRetN at h
  split at h
  · cases h
    exact ⟨_, rfl, rfl⟩
  · cases h
def gRais : Stmt → Option (Str × Pos × List Expr × Pos × Pos)
  | .Raise (some (.Call (.Name x p) es [] p1)) none q => some (x, p, es, p1, q)
  | _ => none
theorem gRais_ok {st : Stmt} {z : Str × Pos × List Expr × Pos × Pos} (h : gRais st = some z) : ∃ x p es p1 q, z = (x, p, es, p1, q) ∧ st = .Raise (some (.Call (.Name x p) es [] p1)) none q := by
  unfold gRais at h
  split at h
  · cases h
    exact ⟨_, _, _, _, _, rfl, rfl⟩
  · cases h
def gTry : Stmt → Option (List Stmt × Str × Pos × Str × Stmt × List Stmt × Pos × Pos)
  | .Try b [.ExceptHandler (some (.Name x p)) (some n) (s :: ss) p1] [] [] q => some (b, x, p, n, s, ss, p1, q)
  | _ => none
theorem gTry_ok {st : Stmt} {z : List Stmt × Str × Pos × Str × Stmt × List Stmt × Pos × Pos} (h : gTry st = some z) : ∃ b x p n s ss p1 q, z = (b, x, p, n, s, ss, p1, q) ∧ st = .Try b [.ExceptHandler (some (.Name x p)) (some n) (s :: ss) p1] [] [] q := by
  unfold gTry at h
  split at h
  · cases h
    exact ⟨_, _, _, _, _, _, _, _, rfl, rfl⟩
  · cases h
def gBrk : Stmt → Option (Pos)
  | .Break q => some q
  | _ => none
theorem gBrk_ok {st : Stmt} {z : Pos} (h : gBrk st = some z) : ∃ q, z = q ∧ st = .Break q := by
  unfold gBrk at h
  split at h
  · cases h
    exact ⟨_, rfl, rfl⟩
  · cases h
def gCnt : Stmt → Option (Pos)
  | .Continue q => some q
  | _ => none
theorem gCnt_ok {st : Stmt} {z : Pos} (h : gCnt st = some z) : ∃ q, z = q ∧ st = .Continue q := by
  unfold gCnt at h
  split at h
  · cases h
    exact ⟨_, rfl, rfl⟩
  · cases h
def gPass : Stmt → Option (Pos)
  | .Pass q => some q
  | _ => none
theorem gPass_ok {st : Stmt} {z : Pos} (h : gPass st = some z) : ∃ q, z = q ∧ st = .Pass q := by
  unfold gPass at h
  split at h
  · cases h
    exact ⟨_, rfl, rfl⟩
  · cases h
/-- what is wanted behind a statement that began at (ia, w, σ, H) -/
def PostS (F : Sf) (Wx : WX) (D : Ends) (ia : List Addr) (w : W) (σ : L2.St) (H : Hp) : R Flow → Prop
  | .ok .next w' => ∀ σ' ia' H', Fr F ia' w' σ' H' → Pers F ia w σ H ia' w' σ' H' → D.nx σ' H'
  | .ok .brk w' => ∀ σ' ia' H', Fr F ia' w' σ' H' → Pers F ia w σ H ia' w' σ' H' → D.bk σ' H'
  | .ok .cnt w' => ∀ σ' ia' H', Fr F ia' w' σ' H' → Pers F ia w σ H ia' w' σ' H' → D.ct σ' H'
  | .ok (.ret d fr) w' => ∀ v σ' ia' H', Fr F ia' w' σ' H' → Rep F.p ia' (Mu F ia' w' σ') H' d v →
      (fr = true → isSeq d = true → ∃ a, v = .ref a ∧ FrA F ia' w' σ' H' a ∧ Cell F.p ia' (fun z => Mu F ia' w' σ' z ∨ z = a) H' d a) → D.rt v H'
  | .ex C fs w' => ∀ cls dd σ' ia' H', Fr F ia' w' σ' H' → Pers F ia w σ H ia' w' σ' H' → ExRel F.p ia' (Mu F ia' w' σ') H' C fs cls dd → Wx cls dd σ' H'
  | .bad => False
def tS (fl : Flds) (F : Sf) (Wx : WX) (c : Ct) (m : S) : TS := fun D σ H => ∃ ia w, Fr F ia w σ H ∧ PostS F Wx D ia w σ H (evS fl c m w)
section
variable {F : Sf} {Wx : WX} {D D' : Ends} {ia : List Addr} {w : W} {σ : L2.St} {H : Hp} {ia1 : List Addr} {w1 : W} {σ1 : L2.St} {H1 : Hp} {r : R Flow}
theorem PostS.base (h : PostS F Wx D ia w σ H r) (p : Pers F ia w σ H ia1 w1 σ1 H1) : PostS F Wx D ia1 w1 σ1 H1 r := by
  cases r with
  | ok f w' =>
    cases f with
    | next => exact fun σ' ia' H' f1 p1 => h σ' ia' H' f1 (p.trans p1)
    | brk => exact fun σ' ia' H' f1 p1 => h σ' ia' H' f1 (p.trans p1)
    | cnt => exact fun σ' ia' H' f1 p1 => h σ' ia' H' f1 (p.trans p1)
    | ret d fr => exact h
  | ex C fs w' => exact fun cls dd σ' ia' H' f1 p1 x => h cls dd σ' ia' H' f1 (p.trans p1) x
  | bad => exact h
/-- an expression, then a statement's end -/
theorem PostS.bindE {α β : Type} {rel : Rl α β} {x : R α} {f : α → W → R Flow} {K : β → Hp → Prop} (h : PostS F Wx D ia w σ H (x.bind f))
    (k : ∀ a w1 v H1, Fr F ia w1 σ H1 → Le ia H H1 → (∀ b, Mu F ia w1 σ b → Mu F ia w σ b) → rel ia (Mu F ia w1 σ) H1 a v → PostS F Wx D ia w1 σ H1 (f a w1) → K v H1) : Post F Wx σ ia w H rel x K := by
  cases x with
  | ok a w' => exact fun v H' f1 l1 s1 r1 => k a w' v H' f1 l1 s1 r1 (PostS.base h (Pers.of l1 s1))
  | ex C fs w' => exact fun cls dd H' f1 l1 s1 x => h cls dd σ ia H' f1 (Pers.of l1 s1) x
  | bad => exact h
theorem PostS.bindF {x : R (RX.D × Bool)} {f : RX.D × Bool → W → R Flow} {K : VK} (h : PostS F Wx D ia w σ H (x.bind f))
    (k : ∀ p w1 v H1, Fr F ia w1 σ H1 → Le ia H H1 → (∀ b, Mu F ia w1 σ b → Mu F ia w σ b) → Rep F.p ia (Mu F ia w1 σ) H1 p.1 v → (p.2 = true → isSeq p.1 = true → NewA F ia w1 σ H H1 p.1 v) → PostS F Wx D ia w σ H (f p w1) → K v H1) : PostF F Wx σ ia w H x K := by
  cases x with
  | ok a w' => exact fun v H' f1 l1 s1 r1 n1 => k a w' v H' f1 l1 s1 r1 n1 h
  | ex C fs w' => exact fun cls dd H' f1 l1 s1 x => h cls dd σ ia H' f1 (Pers.of l1 s1) x
  | bad => exact h
end
/-- a raise by its class -/
def RaiseR (X : Cx) (C : String) (fs : List String) : Prop := ∃ Ca, X.mg (Str.ofString C) = some (.ref Ca) ∧ ∀ (x : Str) (p pos : Pos), x = Str.ofString C → Gl X x → (x == ("__debug__" : Str)) = false →
  (fs = [] → PMk X (.Call (.Name x p) [] [] pos) (fun _ H Q => Q (.ref Ca) none H)) ∧
  (fs ≠ [] → ∀ (es : List Expr) (ta : TA), es.length = fs.length → (∀ e ∈ es, head e = true) → PA X es ta →
    PMk X (.Call (.Name x p) es [] pos) (fun σ H Q => ta σ H fun vs H1 => vs.length = fs.length ∧ ∀ d, H1 d = none → Q (.ref Ca) (some d) (upd H1 d (.xd ((fs.map Str.ofString).zip vs).reverse))))
/-- what a context of statements must have besides -/
structure CxS (fl : Flds) (F : Sf) (Wx : WX) (c : Ct) (sc : Scope) (N : List Str) (ar : String → Nat → Bool) (cm : Bool) (X : Cx) : Prop where
  cx : Cxt F Wx c sc N ar cm X
  pass : PassesOwn (model X.prog X.w) X.A X.env X.xe
  fn : ∀ x, X.fn x = true
  stk : X.stack = X.env :: X.outer
  frm : X.env.frame = some X.env.locals
  rs : cm = true → ∀ C fs, fl C = some fs → ∀ pn xe, RaiseR (X.tr pn xe) C fs
  x0 : cm = true → F.p.x0 = none
  exm : ∀ C fs C0, fl C = some fs → ar C0 999 = true → ∃ Ca Cb, X.mg (Str.ofString C) = some (.ref Ca) ∧ X.mg (Str.ofString C0) = some (.ref Cb) ∧ PySem.W.exmOne X.K (.ref Ca) (.ref Cb) = some (isExc C C0)
  nof : ∀ C fs Ca f, fl C = some fs → X.mg (Str.ofString C) = some (.ref Ca) → ar f 998 = true → PySem.W.findIn X.K (.ref Ca) (Str.ofString f) = some none
  exc : ∀ C fs, fl C = some fs → ∃ Ca, X.mg (Str.ofString C) = some (.ref Ca) ∧ L2.ExcC X.K Ca ∧ ∀ cn b, isInst (.exc C []) cn = some b → (∀ n, cn = .cl n → ar n 999 = true) → ∃ v cv, CnV X cn v ∧ (∀ u, L2.RelV v u → u = cv) ∧ PySem.W.kitOne X.K (.ref Ca) cv = some b
def locB (sc : Scope) (x : Str) : Bool := match sc.names.lookup x with
  | some .local => true
  | some .cell => true
  | _ => false
theorem locB_ok {sc : Scope} {x : Str} (h : locB sc x = true) : Loc sc x := by
  unfold locB at h
  split at h
  · rename_i e
    exact .inl e
  · rename_i e
    exact .inr e
  · cases h
def stB (sc : Scope) (N : List Str) (i : Nat) (x : Str) : Bool := decide (N[i]? = some x) && locB sc x
section
variable {fl : Flds} {F : Sf} {Wx : WX} {c : Ct} {sc : Scope} {N : List Str} {ar : String → Nat → Bool} {cm : Bool} {X : Cx} {m a b d : E} {e l r : Expr} {s1 s2 : S}
theorem ps_weak {st : Stmt} {t t' : TS} (h : PS X st t) (k : ∀ D σ H, t' D σ H → t D σ H) : PS X st t' := ⟨fun pins s σ H D I q => h.run pins s σ H D I (k D σ H q)⟩
theorem pss_weak {st : List Stmt} {t t' : TS} (h : PSs X st t) (k : ∀ D σ H, t' D σ H → t D σ H) : PSs X st t' := ⟨fun pins s σ H D I q => h.run pins s σ H D I (k D σ H q)⟩
theorem no_swap {l : Nat} {env : Env} {t : Option Expr} (h : isComp e = false) : swapsWith e t l env = pure false := by
  cases e <;> first | rfl | cases h
theorem st_lt {i : Nat} {x : Str} (cs : CxS fl F Wx c sc N ar cm X) (h : stB sc N i x = true) {ia : List Addr} {w : W} {σ : L2.St} {H : Hp} (f : Fr F ia w σ H) : i < σ.length := by
  obtain ⟨h1, _⟩ := Bool.and_eq_true_iff.mp h
  have := (List.getElem?_eq_some_iff.mp (of_decide_eq_true h1)).1
  rw [f.cnt, cs.cx.hn]
  exact this
theorem asg_post {ia : List Addr} {w w1 : W} {σ : L2.St} {H H1 : Hp} {D : Ends} {i : Nat} {p : RX.D × Bool} {v : V} (hi : i < σ.length) (f : Fr F ia w σ H) (f1 : Fr F ia w1 σ H1) (l1 : Le ia H H1) (s1 : ∀ b, Mu F ia w1 σ b → Mu F ia w σ b) (r1 : Rep F.p ia (Mu F ia w1 σ) H1 p.1 v)
    (n1 : p.2 = true → isSeq p.1 = true → NewA F ia w1 σ H H1 p.1 v) (h : PostS F Wx D ia w σ H (.ok .next (setSl w1 i (asgSl p.1 p.2)))) : D.nx (σ.set i (some v)) H1 := by
  unfold asgSl at h
  split at h
  · rename_i hz
    obtain ⟨z1, z2⟩ := Bool.and_eq_true_iff.mp hz
    obtain ⟨a, rfl, ha, fa, ca⟩ := n1 z1 z2
    obtain ⟨f2, s2⟩ := fa.setOwn hi ca
    refine h _ ia H1 f2 fun d u ru => ?_
    exact Rep.on (⟨l1, fun b hb => .inr (.inl hb), fun b hb => (s2 b hb).elim (fun z => .inl (s1 b z)) fun z => .inr (by rw [z]; exact ha), fun _ _ h => h⟩ : On ia ia (Mu F ia w σ) _ H H1) d u ru
  · obtain ⟨f2, s2⟩ := f1.setS (i := i) (s := .val p.1) (o := some v) rfl fun d e => by
      cases e
      exact ⟨v, rfl, r1⟩
    exact h _ ia H1 f2 ((Pers.of l1 s1).trans (Pers.sub s2))
theorem st_own (cs : CxS fl F Wx c sc N ar cm X) {i : Nat} {x : Str} {p q : Pos} (hx : stB sc N i x = true) (hc : isComp e = false) (he : PE X e (tF F Wx c m)) : PS X (.Assign [.Name x p] e q) (tS fl F Wx c (.own i m)) := by
  obtain ⟨h1, h2⟩ := Bool.and_eq_true_iff.mp hx
  refine ps_weak (L2.ps_set (i := i) (by rw [cs.cx.hN]; exact cs.cx.nd) (by rw [cs.cx.hN]; exact of_decide_eq_true h1) (by rw [cs.cx.hsc]; exact locB_ok h2) he (no_swap hc) (.inl (cs.fn x))) fun D σ H ⟨ia, w, f, q⟩ => ?_
  have q' : PostS F Wx D ia w σ H ((frE c m w).bind fun p w1 => .ok .next (setSl w1 i (asgSl p.1 p.2))) := q
  exact ⟨ia, w, f, q'.bindF fun p w1 v H1 f1 l1 s1 r1 n1 h1 => asg_post (st_lt cs hx f) f f1 l1 s1 r1 n1 h1⟩
theorem st_asg (cs : CxS fl F Wx c sc N ar cm X) {i : Nat} {x : Str} {p q : Pos} (hx : stB sc N i x = true) (hc : isComp e = false) (he : PE X e (tE F Wx c m)) : PS X (.Assign [.Name x p] e q) (tS fl F Wx c (.asg i m)) := by
  obtain ⟨h1, h2⟩ := Bool.and_eq_true_iff.mp hx
  refine ps_weak (L2.ps_set (i := i) (by rw [cs.cx.hN]; exact cs.cx.nd) (by rw [cs.cx.hN]; exact of_decide_eq_true h1) (by rw [cs.cx.hsc]; exact locB_ok h2) he (no_swap hc) (.inl (cs.fn x))) fun D σ H ⟨ia, w, f, q⟩ => ?_
  have q' : PostS F Wx D ia w σ H ((evE c m w).bind fun d w1 => .ok .next (setSl w1 i (.val d))) := q
  refine ⟨ia, w, f, q'.bindE fun d w1 v H1 f1 l1 s1 r1 h1 => ?_⟩
  obtain ⟨f2, s2⟩ := f1.setS (i := i) (s := .val d) (o := some v) rfl fun d' e' => by
    cases e'
    exact ⟨v, rfl, r1⟩
  exact h1 _ ia H1 f2 (Pers.sub s2)
theorem st_new (cs : CxS fl F Wx c sc N ar cm X) {i : Nat} {x : Str} {p q : Pos} (hx : stB sc N i x = true) (hc : isComp e = false) (he : PE X e (tF F Wx c m)) : PS X (.Assign [.Name x p] e q) (tS fl F Wx c (.new i m)) := by
  obtain ⟨h1, h2⟩ := Bool.and_eq_true_iff.mp hx
  refine ps_weak (L2.ps_set (i := i) (by rw [cs.cx.hN]; exact cs.cx.nd) (by rw [cs.cx.hN]; exact of_decide_eq_true h1) (by rw [cs.cx.hsc]; exact locB_ok h2) he (no_swap hc) (.inl (cs.fn x))) fun D σ H ⟨ia, w, f, q⟩ => ?_
  have q' : PostS F Wx D ia w σ H ((frE c m w).bind fun p w1 => if p.2 && isSeq p.1 then .ok .next { sl := w1.sl.set i (.val (.ref w1.cs.length)), cs := w1.cs ++ [p.1] } else .bad) := q
  refine ⟨ia, w, f, q'.bindF fun p w1 v H1 f1 l1 s1 r1 n1 h1 => ?_⟩
  split at h1
  · rename_i hz
    obtain ⟨z1, z2⟩ := Bool.and_eq_true_iff.mp hz
    obtain ⟨a, rfl, ha, fa, ca⟩ := n1 z1 z2
    obtain ⟨f2, s2⟩ := fa.setNew (st_lt cs hx f) ca
    refine h1 _ _ H1 f2 fun d u ru => ?_
    refine Rep.on (⟨l1, fun b hb => .inr (.inl hb), fun b hb => (s2 b hb).elim (fun z => .inl (s1 b z)) fun z => .inr (by rw [z]; exact ha), fun j b h => ?_⟩ : OnX ia ia (ia ++ [a]) (Mu F ia w σ) _ H H1) d u ru
    rw [List.getElem?_append_left (List.getElem?_eq_some_iff.mp h).1]
    exact h
  · exact h1.elim
theorem st_expr (cs : CxS fl F Wx c sc N ar cm X) {q : Pos} (hc : isComp e = false) (he : PE X e (tE F Wx c m)) : PS X (.Expr e q) (tS fl F Wx c (.expr m)) :=
  ps_weak (L2.ps_expr he (no_swap hc)) fun D σ H ⟨ia, w, f, q⟩ => by
    have q' : PostS F Wx D ia w σ H ((evE c m w).bind fun _ w1 => .ok .next w1) := q
    exact ⟨ia, w, f, q'.bindE fun x w1 v H1 f1 l1 s1 r1 h1 => h1 σ ia H1 f1 Pers.refl⟩
theorem st_ite (cs : CxS fl F Wx c sc N ar cm X) {x : Expr} {p q : List Stmt} {pos : Pos} (ht : PT X x (tT F Wx c m)) (ha : PSs X p (tS fl F Wx c s1)) (hb : PSs X q (tS fl F Wx c s2)) : PS X (.If x p q pos) (tS fl F Wx c (.ite m s1 s2)) :=
  ps_weak (L2.ps_if ht ha hb) fun D σ H ⟨ia, w, f, q⟩ => ⟨ia, w, f, by
    have q' : PostS F Wx D ia w σ H (((evE c m w).bind fun x w1 => tr x w1).bind fun u w2 => if u then evS fl c s1 w2 else evS fl c s2 w2) := by
      have e : evS fl c (.ite m s1 s2) w = (((evE c m w).bind fun x w1 => tr x w1).bind fun u w2 => if u then evS fl c s1 w2 else evS fl c s2 w2) := by
        show ((evE c m w).bind fun x w1 => (tr x w1).bind fun u w2 => if u then evS fl c s1 w2 else evS fl c s2 w2) = _
        cases evE c m w <;> rfl
      rw [← e]
      exact q
    exact q'.bindE fun u w1 v H1 f1 l1 s1' r1 h1 => by
      cases r1
      cases u with
      | true => exact ⟨ia, w1, f1, h1⟩
      | false => exact ⟨ia, w1, f1, h1⟩⟩
theorem st_ret (cs : CxS fl F Wx c sc N ar cm X) {q : Pos} (he : PE X e (tF F Wx c m)) (hm : ∀ i, m ≠ .nm i) : PS X (.Return (some e) q) (tS fl F Wx c (.ret m)) :=
  ps_weak (L2.ps_ret he) fun D σ H ⟨ia, w, f, q⟩ => by
    have e : frR c m w = frE c m w := by
      unfold frR
      split
      · exact absurd rfl (hm _)
      · rfl
    have q' : PostS F Wx D ia w σ H ((frE c m w).bind fun p w1 => .ok (.ret p.1 p.2) w1) := by
      rw [← e]
      exact q
    exact ⟨ia, w, f, q'.bindF fun p w1 v H1 f1 l1 s1 r1 n1 h1 => h1 v σ ia H1 f1 r1 fun z1 z2 => by
      obtain ⟨a, e, _, fa, ca⟩ := n1 z1 z2
      exact ⟨a, e, fa, ca⟩⟩
theorem st_retNm (cs : CxS fl F Wx c sc N ar cm X) {i : Nat} {x : Str} {p q : Pos} (hx : slotB sc N i x = true) : PS X (.Return (some (.Name x p)) q) (tS fl F Wx c (.ret (.nm i))) := by
  have cx := cs.cx
  have h := hx
  unfold slotB at h
  simp only [Bool.and_eq_true, decide_eq_true_eq] at h
  obtain ⟨h1, h2, h3⟩ := h
  unfold okN at h3
  simp only [Bool.and_eq_true, Bool.not_eq_true'] at h3
  refine ps_weak (L2.ps_ret (L2.pe_var (i := i) (by rw [cx.hN]; exact h1) (by rw [cx.hsc]; exact visB_ok h2) h3.1.1 h3.1.2)) fun D σ H ⟨ia, w, f, q⟩ => ?_
  have q' : PostS F Wx D ia w σ H ((frR c (.nm i) w).bind fun p w1 => .ok (.ret p.1 p.2) w1) := q
  unfold frR at q'
  dsimp only at q'
  split at q'
  · rename_i d hd
    obtain ⟨a, ea, ca, na, ma⟩ := f.slo i d (.inl hd)
    obtain ⟨f2, s2⟩ := f.setS (i := i) (s := .no) (o := some (V.ref a)) rfl fun d e => by cases e
    have es : σ.set i (some (V.ref a)) = σ := by
      apply List.ext_getElem?
      intro j
      by_cases hj : j = i
      · subst hj
        rw [List.getElem?_set_self (List.getElem?_eq_some_iff.mp ea).1, ea]
      · rw [List.getElem?_set_ne (Ne.symm hj)]
    rw [es] at f2 s2
    have hi : i < w.sl.length := (List.getElem?_eq_some_iff.mp hd).1
    have at_ : ∀ (j : Nat) (e : RX.D), isOwn ((w.sl.set i .no)[j]?) e → isOwn (w.sl[j]?) e ∧ j ≠ i := fun j e z => by
      by_cases hj : j = i
      · subst hj
        rw [List.getElem?_set_self hi] at z
        rcases z with z | z <;> cases z
      · rw [List.getElem?_set_ne (Ne.symm hj)] at z
        exact ⟨z, hj⟩
    have nm : ¬ Mu F ia (setSl w i .no) σ a := fun z => by
      rcases z with z | z | ⟨j, e, z, q⟩
      · exact f.o0 a z na
      · exact ma z
      · obtain ⟨z1, z2⟩ := at_ j e z
        exact z2 (f.uniq j i a e d z1 (.inl hd) q ea)
    have ma' : Mu F ia w σ a := .inr (.inr ⟨i, d, .inl hd, ea⟩)
    have on : On ia ia (Mu F ia w σ) (fun z => Mu F ia (setSl w i .no) σ z ∨ z = a) H H := ⟨Le.refl, fun b hb => .inr (.inl hb), fun b hb => .inl (hb.elim (s2 b) fun z => by rw [z]; exact ma'), fun _ _ h => h⟩
    have on2 : On ia ia (Mu F ia w σ) (Mu F ia (setSl w i .no) σ) H H := ⟨Le.refl, fun b hb => .inr (.inl hb), fun b hb => .inl (s2 b hb), fun _ _ h => h⟩
    refine ⟨_, ea, q' (.ref a) σ ia H f2 ((ca.on on2 fun _ e => e).rep nm) fun _ _ => ⟨a, rfl, ⟨f2, ma, na, fun j e z q => ?_, fun j b e h1 h2 => (f.cells j b e h1 h2).on on fun _ q => q, fun j e z => ?_, fun j e z => ?_⟩, ca.on on fun _ q => q⟩⟩
    · obtain ⟨z1, z2⟩ := at_ j e z
      exact z2 (f.uniq j i a e d z1 (.inl hd) q ea)
    · have z' : (w.sl.set i .no)[j]? = some (.val e) := z
      by_cases hj : j = i
      · subst hj
        rw [List.getElem?_set_self hi] at z'
        cases z'
      · rw [List.getElem?_set_ne (Ne.symm hj)] at z'
        obtain ⟨v, q, r⟩ := f.slv j e z'
        exact ⟨v, q, Rep.on on e v r⟩
    · obtain ⟨z1, z2⟩ := at_ j e z
      obtain ⟨b, q, c, n, m⟩ := f.slo j e z1
      exact ⟨b, q, c.on on fun _ q => q⟩
  · rename_i hn
    have q2 : PostS F Wx D ia w σ H (((rdS w i).bind fun d w1 => .ok (d, false) w1).bind fun p w1 => .ok (.ret p.1 p.2) w1) := q'
    unfold rdS at q2
    split at q2
    · rename_i d hd
      obtain ⟨v, e, rr⟩ := f.slv i d hd
      exact ⟨v, e, q2 v σ ia H f rr fun z => by cases z⟩
    · rename_i d hd
      exact absurd hd (hn d)
    · exact q2.elim
theorem st_retN : PS X (.Return none q) (tS fl F Wx c .retN) := ps_weak L2.ps_retN fun D σ H ⟨ia, w, f, q⟩ => by
  have q' : PostS F Wx D ia w σ H (.ok (.ret .non false) w) := q
  exact q' .non σ ia H f (by unfold Rep; rfl) fun z => by cases z
theorem st_pass : PS X (.Pass q) (tS fl F Wx c .pass) := ps_weak L2.ps_pass fun D σ H ⟨ia, w, f, q⟩ => by
  have q' : PostS F Wx D ia w σ H (.ok .next w) := q
  exact q' σ ia H f Pers.refl
theorem st_brk : PS X (.Break q) (tS fl F Wx c .brk) := ps_weak L2.ps_break fun D σ H ⟨ia, w, f, q⟩ => by
  have q' : PostS F Wx D ia w σ H (.ok .brk w) := q
  exact q' σ ia H f Pers.refl
theorem st_cnt : PS X (.Continue q) (tS fl F Wx c .cnt) := ps_weak L2.ps_continue fun D σ H ⟨ia, w, f, q⟩ => by
  have q' : PostS F Wx D ia w σ H (.ok .cnt w) := q
  exact q' σ ia H f Pers.refl
theorem ss_nil : PSs X [] (tS fl F Wx c .nil) := pss_weak L2.pss_nil fun D σ H ⟨ia, w, f, q⟩ => by
  have q' : PostS F Wx D ia w σ H (.ok .next w) := q
  exact q' σ ia H f Pers.refl
theorem ss_cons {st : Stmt} {sts : List Stmt} (ha : PS X st (tS fl F Wx c s1)) (hb : PSs X sts (tS fl F Wx c s2)) : PSs X (st :: sts) (tS fl F Wx c (.cons s1 s2)) :=
  pss_weak (L2.pss_cons ha hb) fun D σ H ⟨ia, w, f, q⟩ => ⟨ia, w, f, by
    have q' : PostS F Wx D ia w σ H ((evS fl c s1 w).bind fun f w1 => match f with
      | .next => evS fl c s2 w1
      | g => .ok g w1) := q
    revert q'
    cases evS fl c s1 w with
    | ok g w1 =>
      cases g with
      | next => exact fun q' σ' ia' H' f1 p1 => ⟨ia', w1, f1, PostS.base q' p1⟩
      | brk => exact fun q' => q'
      | cnt => exact fun q' => q'
      | ret d fr => exact fun q' => q'
    | ex C fs w1 => exact fun q' => q'
    | bad => exact fun q' => q'⟩
end
end RX

/-! F16: statements that change things, targets, loops. -/
namespace RX
open PySem PySem.Spec PyProof.Rows
open L2 (Hp V HO VK XK WX upd Cx OpR R2 PE PT PA TE TA TT Gl Vis Inv EP PW CallR IxR Ends TS PS PSs Loc PG PGs TG TGs PSet TSet PI TI It)
section
variable {fl : Flds} {F : Sf} {Wx : WX} {c : Ct} {sc : Scope} {N : List Str} {ar : String → Nat → Bool} {cm : Bool} {X : Cx} {m a b d : E} {e l r : Expr} {s1 s2 : S}
theorem ps_never {st : Stmt} : PS X st (tS fl F Wx c .nope) := ⟨fun _ _ _ _ _ _ q => by obtain ⟨_, _, _, q⟩ := q; exact q.elim⟩
/-- the thing in slot i, and its change -/
theorem mod_ok {D : Ends} {ia : List Addr} {w : W} {σ : L2.St} {H : Hp} {i : Nat} {g : RX.D → Option RX.D} (f : Fr F ia w σ H) (h : PostS F Wx D ia w σ H (modS w i g)) :
    ∃ a d e, σ[i]? = some (some (V.ref a)) ∧ g d = some e ∧ Mu F ia w σ a ∧ Cell F.p ia (Mu F ia w σ) H d a ∧ ∀ o, Cell F.p ia (Mu F ia w σ) (upd H a o) e a → D.nx σ (upd H a o) := by
  unfold modS at h
  split at h
  · rename_i d hd
    split at h
    · rename_i e he
      obtain ⟨a, ea, ca, na, ma⟩ := f.slo i d (.inl hd)
      refine ⟨a, d, e, ea, he, .inr (.inr ⟨i, d, .inl hd, ea⟩), ca, fun o co => ?_⟩
      obtain ⟨f2, p2⟩ := f.modOwn hd ea co
      exact h σ ia _ f2 p2
    · exact h.elim
  · rename_i j hd
    split at h
    · rename_i e he
      obtain ⟨v, ev, rv⟩ := f.slv i _ hd
      unfold Rep at rv
      obtain ⟨a, ia_, rfl⟩ := rv
      cases hc : w.cs[j]? with
      | none =>
        rw [hc] at he
        cases he
      | some d =>
        rw [hc] at he
        refine ⟨a, d, e, ev, he, .inr (.inl (List.mem_of_getElem? ia_)), f.cells j a d ia_ hc, fun o co => ?_⟩
        obtain ⟨f2, p2⟩ := f.modCell ia_ hc co
        exact h σ ia _ f2 p2
    · exact h.elim
  · exact h.elim
theorem on_write {ia : List Addr} {w : W} {σ : L2.St} {H : Hp} {a : Addr} {d : RX.D} {o : HO} (ho : ∀ ps, o ≠ .tbl ps) (ma : Mu F ia w σ a) (ca : Cell F.p ia (Mu F ia w σ) H d a) : OnX (a :: ia) ia ia (Mu F ia w σ) (Mu F ia w σ) H (upd H a o) := by
  obtain ⟨u, hu, hm⟩ := ca.mut
  exact ⟨Le.write hu hm (by simp) ho, fun b hb => (List.mem_cons.mp hb).elim (fun e => by rw [e]; exact ma) fun e => .inr (.inl e), fun b hb => .inl hb, fun _ _ h => h⟩
theorem put_ks {p : Pm} {ia : List Addr} {O : Addr → Prop} {H : Hp} {k : Ky} {d : D} {v : V} (hv : Rep p ia O H d v) : ∀ {kvs : List (Ky × RX.D)} {kws : List (L2.Key × V)}, RepKs p ia O H kvs kws →
    (kvs.any fun kv => decide (kv.1 = k)) = (kws.any fun kv => decide (kv.1 = kyV k)) ∧ RepKs p ia O H (kvs.map fun kv => if kv.1 = k then (kv.1, d) else kv) (kws.map fun kv => if kv.1 = kyV k then (kv.1, v) else kv) ∧ RepKs p ia O H (kvs ++ [(k, d)]) (kws ++ [(kyV k, v)]) ∧ kws.length = kvs.length
  | [], kws, h => by
    unfold RepKs at h
    subst h
    refine ⟨rfl, by unfold RepKs; rfl, ?_, rfl⟩
    show RepKs p ia O H [(k, d)] [(kyV k, v)]
    unfold RepKs
    exact ⟨v, [], rfl, hv, by unfold RepKs; rfl⟩
  | (k2, d2) :: r, kws, h => by
    unfold RepKs at h
    obtain ⟨v2, s, rfl, h1, h2⟩ := h
    obtain ⟨g1, g2, g3, g4⟩ := put_ks (k := k) hv h2
    have hk : k2 = k ↔ kyV k2 = kyV k := ⟨fun z => by rw [z], fun z => by
      cases k2 with
      | inl i =>
        cases k with
        | inl j =>
          have := Sum.inl.inj z
          rw [this]
        | inr y => cases z
      | inr x =>
        cases k with
        | inl j => cases z
        | inr y =>
          have := Sum.inr.inj z
          rw [strOf_inj this]⟩
    refine ⟨?_, ?_, ?_, by simp [g4]⟩
    · rw [List.any_cons, List.any_cons, g1]
      congr 1
      exact decide_eq_decide.mpr hk
    · rw [List.map_cons, List.map_cons]
      by_cases hh : k2 = k
      · rw [if_pos hh, if_pos (hk.mp hh)]
        unfold RepKs
        exact ⟨v, _, rfl, hv, g2⟩
      · rw [if_neg hh, if_neg (fun z => hh (hk.mpr z))]
        unfold RepKs
        exact ⟨v2, _, rfl, h1, g2⟩
    · rw [List.cons_append, List.cons_append]
      unfold RepKs
      exact ⟨v2, _, rfl, h1, g3⟩
theorem putK_rep {p : Pm} {ia : List Addr} {O : Addr → Prop} {H : Hp} {k : Ky} {d : D} {v : V} (hv : Rep p ia O H d v) {kvs : List (Ky × RX.D)} {kws : List (L2.Key × V)} (h : RepKs p ia O H kvs kws) : RepKs p ia O H (putK kvs k d) (L2.putK kws (kyV k) v) := by
  obtain ⟨g1, g2, g3, _⟩ := put_ks hv h (k := k)
  unfold putK L2.putK
  rw [← g1]
  split
  · exact g2
  · exact g3
/-- o[i] = v: lists and dicts -/
def setR : TSet := fun o i v H Q => L2.rSetL o i v H Q ∨ ∃ a H4, o = .ref a ∧ L2.DPut H a i v H4 ∧ Q H4
theorem setR_ok (hu : X.A.units + 1 < cLine) : PSet X setR := by
  intro pins s σ H o i v ov iv u Q I ro ri rv h
  rcases h with h | ⟨a, H4, rfl, g, q⟩
  · exact L2.set_list pins s σ H o i v ov iv u Q I ro ri rv h
  · cases ro
    exact L2.d_setItem hu I g ri rv fun s4 I4 => ⟨H4, I4, q⟩
theorem ixN_of {n : Nat} {i : Int} {j : Nat} (h : ixOf n i = some j) : L2.ixN n i = some j := h
theorem setR_of {D : Ends} {ia : List Addr} {w : W} {σ : L2.St} {H : Hp} {i : Nat} {x y : RX.D} {v u z : V} (f : Fr F ia w σ H) (rx : Rep F.p ia (Mu F ia w σ) H x v) (ry : Rep F.p ia (Mu F ia w σ) H y u) (hz : σ[i]? = some (some z)) (h : PostS F Wx D ia w σ H (modS w i fun o => setOf o x y)) : setR z v u H (fun H' => D.nx σ H') := by
  obtain ⟨a, d, e, ea, he, ma, ca, k⟩ := mod_ok f h
  rw [hz] at ea
  cases ea
  unfold setOf at he
  split at he
  · rename_i xs j
    unfold Rep at rx
    subst rx
    obtain ⟨vs, hv, rv⟩ := ca
    cases hj : ixOf xs.length j with
    | none =>
      rw [hj] at he
      cases he
    | some t =>
      rw [hj] at he
      cases he
      refine .inl ⟨a, vs, j, t, rfl, rfl, hv, ixN_of (by rw [rv.length]; exact hj), k _ ?_⟩
      have o := on_write (o := .lst (vs.set t u)) (fun _ z => by cases z) ma (d := .lst xs) ⟨vs, hv, rv⟩
      exact ⟨vs.set t u, L2.upd_same, Reps.set (Rep.on o _ _ ry) t (Reps.on o _ _ rv)⟩
  · rename_i kvs
    obtain ⟨kws, hv, rv⟩ := ca
    cases hk : keyOf x with
    | none =>
      rw [hk] at he
      cases he
    | some q =>
      rw [hk] at he
      have he' : (if lineOk (kvs.length + 1) then some (RX.D.dic (putK kvs q y)) else none) = some e := he
      split at he'
      · rename_i hl
        cases he'
        have ev : v = L2.kV (kyV q) := by
          unfold keyOf at hk
          split at hk
          · cases hk
            unfold Rep at rx
            exact rx
          · cases hk
            unfold Rep at rx
            exact rx
          · cases hk
        have o := on_write (o := .dK (L2.putK kws (kyV q) u)) (fun _ z => by cases z) ma (d := .dic kvs) ⟨kws, hv, rv⟩
        have ll : kws.length = kvs.length := (put_ks (k := q) ry rv).2.2.2
        refine .inr ⟨a, _, rfl, .inl ⟨kws, kyV q, hv, ev, ?_, rfl⟩, k _ ⟨_, L2.upd_same, putK_rep (Rep.on o _ _ ry) (RepKs.on o _ _ rv)⟩⟩
        rw [ll]
        have := line_of hl
        omega
      · cases he'
  · cases he
theorem rd_at {ia : List Addr} {w : W} {σ : L2.St} {H : Hp} {i : Nat} {d : RX.D} {w' : W} (f : Fr F ia w σ H) (h : rdB w i = .ok d w') : w' = w ∧ ∃ v, σ[i]? = some (some v) := by
  unfold rdB at h
  split at h
  · rename_i hd
    cases h
    obtain ⟨v, e, _⟩ := f.slv i _ hd
    exact ⟨rfl, v, e⟩
  · rename_i hd
    cases h
    obtain ⟨a, e, _⟩ := f.slo i _ (.inl hd)
    exact ⟨rfl, _, e⟩
  · rename_i hd
    cases h
    obtain ⟨a, e, _⟩ := f.slo i _ (.inr hd)
    exact ⟨rfl, _, e⟩
  · cases h
theorem rdB_ex {w : W} {i : Nat} {C : String} {fs : List (String × D)} {w' : W} (h : rdB w i = .ex C fs w') : False := by
  unfold rdB at h
  split at h <;> cases h
theorem pe_slot (cx : Cxt F Wx c sc N ar cm X) {i : Nat} {x : Str} {pos : Pos} (h : slotB sc N i x = true) : PE X (.Name x pos) (L2.tVar i) := by
  unfold slotB at h
  simp only [Bool.and_eq_true, decide_eq_true_eq] at h
  obtain ⟨h1, h2, h3⟩ := h
  unfold okN at h3
  simp only [Bool.and_eq_true, Bool.not_eq_true'] at h3
  exact L2.pe_var (i := i) (by rw [cx.hN]; exact h1) (by rw [cx.hsc]; exact visB_ok h2) h3.1.1 h3.1.2
theorem st_setIx (cs : CxS fl F Wx c sc N ar cm X) {i : Nat} {x : Str} {k : Expr} {p p1 q : Pos} (hx : slotB sc N i x = true) (hc : isComp e = false) (he : PE X e (tE F Wx c m)) (hk : PE X k (tE F Wx c a)) (hh : head k = true) : PS X (.Assign [.Subscript (.Name x p) k p1] e q) (tS fl F Wx c (.setIx i a m)) := by
  have hu : X.A.units + 1 < cLine := by have := cs.cx.un; omega
  refine ps_weak (L2.ps_asg he (L2.pg_sub (pe_slot cs.cx hx) hk (setR_ok hu) (fun v => by cases k <;> first | rfl | cases hh)) (by unfold swapsWithSole; exact no_swap hc) (by cases e <;> rfl) rfl) fun D σ H ⟨ia, w, f, q⟩ => ?_
  have q' : PostS F Wx D ia w σ H ((evE c m w).bind fun d w1 => (rdB w1 i).bind fun _ w1 => (evE c a w1).bind fun x w2 => modS w2 i fun o => setOf o x d) := q
  refine ⟨ia, w, f, q'.bindE fun y w1 u H1 f1 l1 s1 r1 h1 => ?_⟩
  cases hr : rdB w1 i with
  | ok d0 w1' =>
    rw [hr] at h1
    obtain ⟨rfl, z, hz⟩ := rd_at f1 hr
    refine ⟨z, hz, ia, w1', f1, ?_⟩
    have h2 : PostS F Wx D ia w1' σ H1 ((evE c a w1').bind fun x w2 => modS w2 i fun o => setOf o x y) := h1
    exact h2.bindE fun x w2 v H2 f2 l2 s2 r2 h3 => setR_of f2 r2 (Pers.of l2 s2 _ _ r1) hz h3
  | ex C fs w' => exact (rdB_ex hr).elim
  | bad =>
    rw [hr] at h1
    exact h1.elim
theorem isL_ok {ia : List Addr} {w : W} {σ : L2.St} {H : Hp} {i : Nat} (f : Fr F ia w σ H) (h : isL w i = true) : ∃ a xs, σ[i]? = some (some (V.ref a)) ∧ H a = some (.lst xs) := by
  unfold isL at h
  split at h
  · rename_i hd
    obtain ⟨a, e, ⟨vs, hv, _⟩, _⟩ := f.slo i _ (.inl hd)
    exact ⟨a, vs, e, hv⟩
  · rename_i j hd
    split at h
    · rename_i hc
      obtain ⟨v, ev, rv⟩ := f.slv i _ hd
      unfold Rep at rv
      obtain ⟨a, ia_, rfl⟩ := rv
      obtain ⟨vs, hv, _⟩ := f.cells j a _ ia_ hc
      exact ⟨a, vs, ev, hv⟩
    · cases h
  · cases h
theorem st_app (cs : CxS fl F Wx c sc N ar cm X) {i : Nat} {x : Str} {p p1 p2 q : Pos} (hx : slotB sc N i x = true) (he : PE X e (tE F Wx c m)) (hh : head e = true) (hl : p1.endLine = p2.line) : PS X (.Expr (.Call (.Attribute (.Name x p) (Str.ofString "append") p1) [e] [] p2) q) (tS fl F Wx c (.app i m)) := by
  have pa : PA X [e] (L2.tCons (tE F Wx c m) L2.tNil) := L2.pa_cons he L2.pa_nil (star_head hh)
  refine ps_weak (L2.ps_expr (L2.pe_bm PySem.F.plainAttrs_list PySem.F.slot_list_append rfl L2.mt_append (pe_slot cs.cx hx) pa rfl (by
      show ((backTo p2 (starEach [e] X.env)).all (fun x => !x.1) && (backToKw p2 (keywordEach [] X.env)).all (fun x => x.1.isSome) && decide (1 + 0 + 0 < 30)) = true
      rw [star_head hh]
      rfl) (by rw [hl]; exact beq_self_eq_true _) (star_head hh) rfl) rfl) fun D σ H ⟨ia, w, f, q⟩ => ?_
  have q' : PostS F Wx D ia w σ H (if isL w i then (evE c m w).bind fun d w1 => modS w1 i (appOf d) else .bad) := q
  split at q'
  · rename_i hi
    obtain ⟨a, xs, ea, hH⟩ := isL_ok f hi
    refine ⟨.ref a, ea, .inl ⟨rfl, xs, L2.SqL.of hH⟩, ia, w, f, q'.bindE fun y w1 u H1 f1 l1 s1 r1 h1 => ?_⟩
    obtain ⟨a2, d, e2, ea2, he2, ma, ca, k⟩ := mod_ok f1 h1
    rw [ea] at ea2
    cases ea2
    unfold appOf at he2
    split at he2
    · rename_i ys
      split at he2
      · rename_i hz
        cases he2
        obtain ⟨vs, hv, rv⟩ := ca
        have o := on_write (o := .lst (vs ++ [u])) (fun _ z => by cases z) ma (d := .lst ys) ⟨vs, hv, rv⟩
        refine ⟨a, vs, u, rfl, rfl, hv, ?_, k _ ⟨_, L2.upd_same, Reps.append (Reps.on o _ _ rv) ?_⟩⟩
        · rw [rv.length]
          have := line_of hz
          omega
        · unfold Reps
          exact ⟨u, [], rfl, Rep.on o _ _ r1, by unfold Reps; rfl⟩
      · cases he2
    · cases he2
  · exact q'.elim
end
end RX

/-! F17: targets, loops, raise. -/
namespace RX
open PySem PySem.Spec PyProof.Rows
open L2 (Hp V HO VK XK WX upd Cx OpR R2 PE PT PA TE TA TT Gl Vis Inv EP PW CallR IxR Ends TS PS PSs Loc PG PGs TG TGs PSet TSet PI TI It)
/-- targets -/
def gT (F : Sf) (is : List Nat) : TG := fun v σ H Q => ∃ ia w d, Fr F ia w σ H ∧ Rep F.p ia (Mu F ia w σ) H d v ∧ match setT is d w with
  | .ok .next w' => ∀ σ', Fr F ia w' σ' H → (∀ b, Mu F ia w' σ' b → Mu F ia w σ b) → Q σ' H
  | _ => False
def gTs (F : Sf) (is : List Nat) : TGs := fun vs σ H Q => ∃ ia w ds, Fr F ia w σ H ∧ Reps F.p ia (Mu F ia w σ) H ds vs ∧ match setSls is ds w with
  | .ok .next w' => ∀ σ', Fr F ia w' σ' H → (∀ b, Mu F ia w' σ' b → Mu F ia w σ b) → Q σ' H
  | _ => False
def nmsB (sc : Scope) (N : List Str) : List Nat → List Expr → Bool
  | [], [] => true
  | i :: is, e :: es => (match dName e with
    | some (x, _) => stB sc N i x
    | none => false) && nmsB sc N is es
  | _, _ => false
def tgB (sc : Scope) (N : List Str) (is : List Nat) (tg : Expr) : Bool := match dName tg with
  | some (x, _) => (match is with
    | [i] => stB sc N i x
    | _ => false)
  | none => (match dTup tg with
    | some (es, _, _) => decide (is.length ≠ 1) && nmsB sc N is es
    | none => false)
section
variable {fl : Flds} {F : Sf} {Wx : WX} {c : Ct} {sc : Scope} {N : List Str} {ar : String → Nat → Bool} {cm : Bool} {X : Cx} {m a b d : E} {e l r : Expr} {s1 s2 : S}
theorem pg_weak {t t' : TG} (h : PG X e t) (k : ∀ v σ H Q, t' v σ H Q → t v σ H Q) : PG X e t' := ⟨fun pins s σ H v u Q I r q => h.run pins s σ H v u Q I r (k v σ H Q q)⟩
theorem pgs_weak {es : List Expr} {t t' : TGs} (h : PGs X es t) (k : ∀ v σ H Q, t' v σ H Q → t v σ H Q) : PGs X es t' := ⟨fun pins s σ H v u Q I r q => h.run pins s σ H v u Q I r (k v σ H Q q)⟩
theorem pg_one (cs : CxS fl F Wx c sc N ar cm X) {i : Nat} {x : Str} {p : Pos} (hx : stB sc N i x = true) : PG X (.Name x p) (L2.gName i) := by
  obtain ⟨h1, h2⟩ := Bool.and_eq_true_iff.mp hx
  exact L2.pg_name (by rw [cs.cx.hN]; exact cs.cx.nd) (by rw [cs.cx.hN]; exact of_decide_eq_true h1) (by rw [cs.cx.hsc]; exact locB_ok h2) (.inl (cs.fn x))
theorem setSls_len : ∀ {is : List Nat} {ds : List D} {w : W} {f : Flow} {w' : W}, setSls is ds w = .ok f w' → f = .next ∧ is.length = ds.length
  | [], [], w, f, w', h => by
    cases h
    exact ⟨rfl, rfl⟩
  | [], _ :: _, _, _, _, h => by cases h
  | _ :: _, [], _, _, _, h => by cases h
  | i :: is, d :: ds, w, f, w', h => by
    obtain ⟨h1, h2⟩ := setSls_len (is := is) (ds := ds) h
    exact ⟨h1, by simp [h2]⟩
theorem pgs_nms (cs : CxS fl F Wx c sc N ar cm X) : ∀ {is : List Nat} {es : List Expr}, nmsB sc N is es = true → PGs X es (gTs F is) ∧ (assignEach es X.env).length = is.length ∧ (assignEach es X.env).findIdx? (·.1) = none
  | [], [], _ => ⟨pgs_weak L2.pgs_nil fun v σ H Q ⟨ia, w, ds, f, rr, q⟩ => by
      cases ds with
      | nil =>
        unfold Reps at rr
        exact ⟨rr, q σ f fun _ z => z⟩
      | cons d ds => exact q.elim, rfl, rfl⟩
  | [], _ :: _, h => by cases h
  | i :: is, [], h => by cases h
  | i :: is, e :: es, h => by
    unfold nmsB at h
    cases hd : dName e with
    | none =>
      rw [hd] at h
      cases h
    | some z =>
      obtain ⟨x, p, rfl, rfl⟩ := dName_ok hd
      rw [hd] at h
      obtain ⟨h1, h2⟩ := Bool.and_eq_true_iff.mp h
      obtain ⟨g1, g2, g3⟩ := pgs_nms cs h2
      refine ⟨pgs_weak (L2.pgs_cons (pg_one cs h1) g1 rfl) fun v σ H Q ⟨ia, w, ds, f, rr, q⟩ => ?_, ?_, ?_⟩
      · cases ds with
        | nil => exact q.elim
        | cons d ds =>
          unfold Reps at rr
          obtain ⟨v0, vr, ev, r1, r2⟩ := rr
          have q' : (match setSls is ds (setSl w i (.val d)) with
            | .ok .next w' => ∀ σ', Fr F ia w' σ' H → (∀ b, Mu F ia w' σ' b → Mu F ia w σ b) → Q σ' H
            | _ => False) := q
          obtain ⟨f2, s2⟩ := f.setS (i := i) (s := .val d) (o := some v0) rfl fun d' e' => by
            cases e'
            exact ⟨v0, rfl, r1⟩
          refine ⟨v0, vr, ev, ia, setSl w i (.val d), ds, f2, Reps.on (⟨Le.refl, fun b hb => .inr (.inl hb), fun b hb => .inl (s2 b hb), fun _ _ h => h⟩ : On ia ia (Mu F ia w σ) _ H H) ds vr r2, ?_⟩
          revert q'
          cases setSls is ds (setSl w i (.val d)) with
          | ok fl w' =>
            cases fl with
            | next => exact fun q' σ' f3 s3 => q' σ' f3 fun b z => s2 b (s3 b z)
            | _ => exact fun q' => q'
          | ex C fs w' => exact fun q' => q'
          | bad => exact fun q' => q'
      · show (assignEach es X.env).length + 1 = is.length + 1
        rw [g2]
      · show (List.findIdx? (·.1) ((false, assign (.Name x p) X.env) :: assignEach es X.env)) = none
        rw [List.findIdx?_cons]
        simp only [g3]
        rfl
theorem pg_tg (cs : CxS fl F Wx c sc N ar cm X) (hcm : cm = true) {is : List Nat} {tg : Expr} (h : tgB sc N is tg = true) : PG X tg (gT F is) := by
  unfold tgB at h
  cases hd : dName tg with
  | some z =>
    obtain ⟨x, p, rfl, rfl⟩ := dName_ok hd
    rw [hd] at h
    dsimp only at h
    split at h
    · rename_i i
      refine pg_weak (pg_one cs h) fun v σ H Q ⟨ia, w, d, f, rr, q⟩ => ?_
      obtain ⟨f2, s2⟩ := f.setS (i := i) (s := .val d) (o := some v) rfl fun d' e' => by
        cases e'
        exact ⟨v, rfl, rr⟩
      exact q _ f2 s2
    · cases h
  | none =>
    rw [hd] at h
    dsimp only at h
    cases ht : dTup tg with
    | none =>
      rw [ht] at h
      cases h
    | some z =>
      obtain ⟨es, k, p, rfl, rfl⟩ := dTup_ok ht
      rw [ht] at h
      obtain ⟨h0, h1⟩ := Bool.and_eq_true_iff.mp h
      have h0 := of_decide_eq_true h0
      obtain ⟨g1, g2, g3⟩ := pgs_nms cs h1
      refine pg_weak (L2.pg_tup (n := is.length) (cs.cx.calm hcm) g1 g2 g3) fun v σ H Q ⟨ia, w, d, f, rr, q⟩ => ?_
      unfold setT at q
      split at q
      · rename_i w' hq
        split at hq
        · exact absurd rfl h0
        · split at hq
          · rename_i ds
            unfold Rep at rr
            obtain ⟨a, vs, ev, ht, rv⟩ := rr
            refine ⟨a, vs, ev, by rw [cs.cx.hK]; exact ht, by rw [rv.length, (setSls_len hq).2], ia, w, ds, f, rv, ?_⟩
            rw [hq]
            exact q
          · cases hq
      · exact q.elim
theorem st_asgT (cs : CxS fl F Wx c sc N ar cm X) (hcm : cm = true) {is : List Nat} {tg : Expr} {q : Pos} (ht : tgB sc N is tg = true) (hd : dName tg = none) (hc : isComp e = false) (hn : dTup e = none) (he : PE X e (tE F Wx c m)) : PS X (.Assign [tg] e q) (tS fl F Wx c (.asgT is m)) := by
  have hw : swappedStores [tg] e X.env = pure none := by
    unfold swappedStores
    cases tg <;> cases e <;> first | rfl | cases hn
  have h1 : (assignEach [tg] X.env).map (·.2) = [assign tg X.env] := by
    unfold tgB at ht
    rw [hd] at ht
    dsimp only at ht
    cases hx : dTup tg with
    | none =>
      rw [hx] at ht
      cases ht
    | some z =>
      obtain ⟨es, k, p, rfl, rfl⟩ := dTup_ok hx
      rfl
  refine ps_weak (L2.ps_asg he (pg_tg cs hcm ht) (by unfold swapsWithSole; exact no_swap hc) hw h1) fun D σ H ⟨ia, w, f, q⟩ => ?_
  have q' : PostS F Wx D ia w σ H ((evE c m w).bind fun x w1 => setT is x w1) := q
  refine ⟨ia, w, f, q'.bindE fun x w1 v H1 f1 l1 s1 r1 h1 => ⟨ia, w1, x, f1, r1, ?_⟩⟩
  have nx : ∀ fl w', setT is x w1 = .ok fl w' → fl = .next := fun fl w' h => by
    unfold setT at h
    split at h
    · cases h
      rfl
    · split at h
      · exact (setSls_len h).1
      · cases h
  have ne : ∀ C fs w', setT is x w1 ≠ .ex C fs w' := fun C fs w' h => by
    have ns : ∀ (is : List Nat) (ds : List RX.D) (w : W), setSls is ds w ≠ .ex C fs w' := fun is => by
      induction is with
      | nil =>
        intro ds w h
        cases ds <;> cases h
      | cons i is ih =>
        intro ds w h
        cases ds with
        | nil => cases h
        | cons d ds => exact ih ds _ h
    unfold setT at h
    split at h
    · cases h
    · split at h
      · exact ns _ _ _ h
      · cases h
  cases hs : setT is x w1 with
  | ok fl w' =>
    rw [hs] at h1
    have := nx fl w' hs
    subst this
    exact fun σ' f2 s2 => h1 σ' ia H1 f2 (Pers.sub s2)
  | ex C fs w' => exact absurd hs (ne C fs w')
  | bad =>
    rw [hs] at h1
    exact h1.elim
/-! ### while -/
theorem st_whl (cs : CxS fl F Wx c sc N ar cm X) {t : Expr} {body : List Stmt} {q : Pos} (ht : PT X t (tT F Wx c m)) (hb : PSs X body (tS fl F Wx c s1)) : PS X (.While t body [] q) (tS fl F Wx c (.whl m s1)) := by
  refine ps_weak (L2.ps_while cs.pass ht hb) fun D σ H ⟨ia, w, f, q⟩ => ?_
  have q' : PostS F Wx D ia w σ H (whlR (fun w => (evE c m w).bind fun x w1 => tr x w1) (fun w => evS fl c s1 w) w) := q
  generalize hC : (fun w => (evE c m w).bind fun x w1 => tr x w1) = C at q'
  generalize hB : (fun w => evS fl c s1 w) = B at q'
  have hC' : ∀ w, ((evE c m w).bind fun x w1 => tr x w1) = C w := fun w => by rw [← hC]
  have hB' : ∀ w, evS fl c s1 w = B w := fun w => by rw [← hB]
  have hx : ∃ n r, whlN C B n w = some r := by
    refine Classical.byContradiction fun hn => ?_
    have : whlR C B w = .bad := whlR_bad fun n => by
      cases e : whlN C B n w with
      | none => rfl
      | some r => exact (hn ⟨n, r, e⟩).elim
    rw [this] at q'
    exact q'
  obtain ⟨n0, r0, e0⟩ := hx
  rw [whlR_of e0] at q'
  refine ⟨fun n σ' H' => ∃ ia' w' r, Fr F ia' w' σ' H' ∧ whlN C B n w' = some r ∧ PostS F Wx D ia' w' σ' H' r, ⟨n0, ia, w, r0, f, e0, q'⟩, ?_⟩
  rintro n σ' H' ⟨ia', w', r, f', e', q2⟩
  cases n with
  | zero => cases e'
  | succ n =>
    refine ⟨ia', w', f', ?_⟩
    rw [hC' w']
    unfold whlN at e'
    cases hc : C w' with
    | ok tb w1 =>
      rw [hc] at e'
      intro v H1 f1 l1 s1' r1
      cases r1
      cases tb with
      | false =>
        cases e'
        show D.nx σ' H1
        exact q2 σ' ia' H1 f1 (Pers.of l1 s1')
      | true =>
        refine ⟨fun σ2 H2 => ∃ ia2 w2 r, Fr F ia2 w2 σ2 H2 ∧ whlN C B n w2 = some r ∧ PostS F Wx D ia2 w2 σ2 H2 r, fun σ2 H2 h => ⟨n, Nat.lt_succ_self n, h⟩, ia', w1, f1, ?_⟩
        rw [hB' w1]
        dsimp only at e'
        have q3 := PostS.base q2 (Pers.of l1 s1')
        cases hb : B w1 with
        | ok fl w2 =>
          rw [hb] at e'
          cases fl with
          | next => exact fun σ2 ia2 H2 f2 p2 => ⟨ia2, w2, r, f2, e', PostS.base q3 p2⟩
          | cnt => exact fun σ2 ia2 H2 f2 p2 => ⟨ia2, w2, r, f2, e', PostS.base q3 p2⟩
          | brk =>
            cases e'
            exact fun σ2 ia2 H2 f2 p2 => q3 σ2 ia2 H2 f2 p2
          | ret d fr =>
            cases e'
            exact q3
        | ex C' fs w2 =>
          rw [hb] at e'
          cases e'
          exact q3
        | bad =>
          rw [hb] at e'
          cases e'
          exact q3
    | ex C' fs w1 =>
      rw [hc] at e'
      cases e'
      exact fun cls dd H1 f1 l1 s1' x => q2 cls dd σ' ia' H1 f1 (Pers.of l1 s1') x
    | bad =>
      rw [hc] at e'
      cases e'
      exact q2
/-! ### for -/
/-- what is walked: an iterator of the trees xs -/
structure Walk (F : Sf) (ia : List Addr) (w : W) (σ : L2.St) (H : Hp) (xs : List RX.D) (J : It) : Prop where
  stop : ∀ ia' w' σ' H', Pers F ia w σ H ia' w' σ' H' → J.stop xs.length H'
  go : ∀ i ia' w' σ' H', i < xs.length → Pers F ia w σ H ia' w' σ' H' → J.go i H'
  yld : ∀ i ia' w' σ' H' x H2 d, Pers F ia w σ H ia' w' σ' H' → xs[i]? = some d → J.yld i H' x H2 → H2 = H' ∧ Rep F.p ia' (Mu F ia' w' σ') H' d x
theorem for_walk {is : List Nat} {D : Ends} {ia : List Addr} {w : W} {σ : L2.St} {H : Hp} {xs : List RX.D} {J : It} (wk : Walk F ia w σ H xs J) (f : Fr F ia w σ H)
    (q : PostS F Wx D ia w σ H (forL (fun x w2 => (setT is x w2).bind fun _ w3 => evS fl c s1 w3) xs w)) :
    ∃ W : Nat → Nat → L2.St → Hp → Prop, (∃ m, W 0 m σ H) ∧ ∀ i m σ H, W i m σ H →
      (J.stop i H ∧ D.nx σ H) ∨ (J.go i H ∧ ∃ N : L2.St → Hp → Prop, (∀ σ' H', N σ' H' → ∃ m', m' < m ∧ W (i + 1) m' σ' H') ∧ ∀ x H', J.yld i H x H' → gT F is x σ H' fun σ2 H2 => tS fl F Wx c s1 { D with nx := N, ct := N, bk := D.nx } σ2 H2) := by
  generalize hB : (fun x w2 => (setT is x w2).bind fun _ w3 => evS fl c s1 w3) = B at q
  refine ⟨fun i n σ' H' => n = xs.length - i ∧ i ≤ xs.length ∧ ∃ ia' w', Fr F ia' w' σ' H' ∧ Pers F ia w σ H ia' w' σ' H' ∧ PostS F Wx D ia' w' σ' H' (forL B (xs.drop i) w'), ⟨xs.length, by simp, Nat.zero_le _, ia, w, f, Pers.refl, q⟩, ?_⟩
  rintro i n σ' H' ⟨rfl, hi, ia', w', f', p', q'⟩
  by_cases hlt : i < xs.length
  · refine .inr ⟨wk.go i ia' w' σ' H' hlt p', fun σ2 H2 => ∃ ia2 w2, Fr F ia2 w2 σ2 H2 ∧ Pers F ia w σ H ia2 w2 σ2 H2 ∧ PostS F Wx D ia2 w2 σ2 H2 (forL B (xs.drop (i + 1)) w2),
      fun σ2 H2 ⟨ia2, w2, f2, p2, q2⟩ => ⟨xs.length - (i + 1), by omega, rfl, hlt, ia2, w2, f2, p2, q2⟩, fun x H2 y => ?_⟩
    have e0 : xs[i]? = some xs[i] := List.getElem?_eq_getElem hlt
    obtain ⟨rfl, rx⟩ := wk.yld i ia' w' σ' H' x H2 xs[i] p' e0 y
    rw [List.drop_eq_getElem_cons hlt] at q'
    have q2 : PostS F Wx D ia' w' σ' H2 ((B xs[i] w').bind fun fl w1 => match fl with
      | .next => forL B (xs.drop (i + 1)) w1
      | .cnt => forL B (xs.drop (i + 1)) w1
      | .brk => .ok .next w1
      | .ret d b => .ok (.ret d b) w1) := q'
    rw [← hB] at q2
    refine ⟨ia', w', xs[i], f', rx, ?_⟩
    dsimp only at q2
    have nx : ∀ fl w2, setT is xs[i] w' = .ok fl w2 → fl = .next := fun fl w2 h => by
      unfold setT at h
      split at h
      · cases h
        rfl
      · split at h
        · exact (setSls_len h).1
        · cases h
    cases hs : setT is xs[i] w' with
    | ok g w3 =>
      rw [hs] at q2
      have := nx g w3 hs
      subst this
      intro σ3 f3 s3
      refine ⟨ia', w3, f3, ?_⟩
      have p3 : Pers F ia' w' σ' H2 ia' w3 σ3 H2 := Pers.sub s3
      have q3 : PostS F Wx D ia' w3 σ3 H2 ((evS fl c s1 w3).bind fun fl' w1 => match fl' with
        | .next => forL B (xs.drop (i + 1)) w1
        | .cnt => forL B (xs.drop (i + 1)) w1
        | .brk => .ok .next w1
        | .ret d b => .ok (.ret d b) w1) := by
        rw [← hB]
        exact PostS.base q2 p3
      revert q3
      cases evS fl c s1 w3 with
      | ok fl' w4 =>
        cases fl' with
        | next => exact fun q3 σ4 ia4 H4 f4 p4 => ⟨ia4, w4, f4, (p'.trans p3).trans p4, PostS.base q3 p4⟩
        | cnt => exact fun q3 σ4 ia4 H4 f4 p4 => ⟨ia4, w4, f4, (p'.trans p3).trans p4, PostS.base q3 p4⟩
        | brk => exact fun q3 => q3
        | ret d fr => exact fun q3 => q3
      | ex C fs w4 => exact fun q3 => q3
      | bad => exact fun q3 => q3
    | ex C fs w3 =>
      exfalso
      have ns : ∀ (is : List Nat) (ds : List RX.D) (w : W), setSls is ds w ≠ .ex C fs w3 := fun is => by
        induction is with
        | nil =>
          intro ds w h
          cases ds <;> cases h
        | cons i is ih =>
          intro ds w h
          cases ds with
          | nil => cases h
          | cons d ds => exact ih ds _ h
      unfold setT at hs
      split at hs
      · cases hs
      · split at hs
        · exact ns _ _ _ hs
        · cases hs
    | bad =>
      rw [hs] at q2
      exact q2
  · have e : i = xs.length := by omega
    subst e
    rw [List.drop_length] at q'
    exact .inl ⟨wk.stop ia' w' σ' H' p', q' σ' ia' H' f' Pers.refl⟩
theorem walk_lst {ia : List Addr} {w : W} {σ : L2.St} {H : Hp} {xs : List RX.D} {a : Addr} (hr : Rep F.p ia (Mu F ia w σ) H (.lst xs) (.ref a)) : Walk F ia w σ H xs (L2.Itl F.p.K a) := by
  have at_ : ∀ {ia' w' σ' H'}, Pers F ia w σ H ia' w' σ' H' → ∃ vs, L2.SqL F.p.K H' a vs ∧ H' a = some (.lst vs) ∧ Reps F.p ia' (Mu F ia' w' σ') H' xs vs := fun {ia' w' σ' H'} p => by
    have := p _ _ hr
    unfold Rep at this
    obtain ⟨a', vs, e, h1, _, h2⟩ := this
    cases e
    exact ⟨vs, L2.SqL.of h1, h1, h2⟩
  refine ⟨fun ia' w' σ' H' p => ?_, fun i ia' w' σ' H' hi p => ?_, fun i ia' w' σ' H' x H2 d p hd y => ?_⟩
  · obtain ⟨vs, h1, _, h2⟩ := at_ p
    exact ⟨vs, h1, by rw [h2.length]; exact Nat.le_refl _⟩
  · obtain ⟨vs, h1, _, h2⟩ := at_ p
    obtain ⟨v, h3, _⟩ := h2.get (List.getElem?_eq_getElem hi)
    exact ⟨vs, v, h1, h3⟩
  · obtain ⟨e, y⟩ := y
    obtain ⟨vs, h1, _, h2⟩ := at_ p
    obtain ⟨v, h3, h4⟩ := h2.get hd
    have := y vs h1
    rw [h3] at this
    cases this
    exact ⟨e, h4⟩
theorem walk_frz {ia : List Addr} {w : W} {σ : L2.St} {H : Hp} {xs : List RX.D} {a : Addr} (hr : Rep F.p ia (Mu F ia w σ) H (.frz xs) (.ref a)) : Walk F ia w σ H xs (L2.Itl F.p.K a) := by
  have at_ : ∀ {ia' w' σ' H'}, Pers F ia w σ H ia' w' σ' H' → ∃ vs, L2.SqL F.p.K H' a vs ∧ Reps F.p ia' (Mu F ia' w' σ') H' xs vs := fun {ia' w' σ' H'} p => by
    have := p _ _ hr
    unfold Rep at this
    obtain ⟨a', vs, e, h1, h2⟩ := this
    cases e
    exact ⟨vs, h1.sq, h2⟩
  refine ⟨fun ia' w' σ' H' p => ?_, fun i ia' w' σ' H' hi p => ?_, fun i ia' w' σ' H' x H2 d p hd y => ?_⟩
  · obtain ⟨vs, h1, h2⟩ := at_ p
    exact ⟨vs, h1, by rw [h2.length]; exact Nat.le_refl _⟩
  · obtain ⟨vs, h1, h2⟩ := at_ p
    obtain ⟨v, h3, _⟩ := h2.get (List.getElem?_eq_getElem hi)
    exact ⟨vs, v, h1, h3⟩
  · obtain ⟨e, y⟩ := y
    obtain ⟨vs, h1, h2⟩ := at_ p
    obtain ⟨v, h3, h4⟩ := h2.get hd
    have := y vs h1
    rw [h3] at this
    cases this
    exact ⟨e, h4⟩
theorem walk_tup {ia : List Addr} {w : W} {σ : L2.St} {H : Hp} {xs : List RX.D} {a : Addr} (hr : Rep F.p ia (Mu F ia w σ) H (.tup xs) (.ref a)) : Walk F ia w σ H xs (L2.Itt F.p.K a) := by
  have at_ : ∀ {ia' w' σ' H'}, Pers F ia w σ H ia' w' σ' H' → ∃ vs, L2.SqT F.p.K H' a vs ∧ Reps F.p ia' (Mu F ia' w' σ') H' xs vs := fun {ia' w' σ' H'} p => by
    have := p _ _ hr
    unfold Rep at this
    obtain ⟨a', vs, e, h1, h2⟩ := this
    cases e
    exact ⟨vs, h1, h2⟩
  refine ⟨fun ia' w' σ' H' p => ?_, fun i ia' w' σ' H' hi p => ?_, fun i ia' w' σ' H' x H2 d p hd y => ?_⟩
  · obtain ⟨vs, h1, h2⟩ := at_ p
    exact ⟨vs, h1, by rw [h2.length]; exact Nat.le_refl _⟩
  · obtain ⟨vs, h1, h2⟩ := at_ p
    obtain ⟨v, h3, _⟩ := h2.get (List.getElem?_eq_getElem hi)
    exact ⟨vs, v, h1, h3⟩
  · obtain ⟨e, y⟩ := y
    obtain ⟨vs, h1, h2⟩ := at_ p
    obtain ⟨v, h3, h4⟩ := h2.get hd
    have := y vs h1
    rw [h3] at this
    cases this
    exact ⟨e, h4⟩
theorem walk_rng {ia : List Addr} {w : W} {σ : L2.St} {H : Hp} (lo : Int) (n : Nat) : Walk F ia w σ H (rangeD lo n) (L2.Itr lo n) := by
  have hl : (rangeD lo n).length = n := by simp [rangeD]
  refine ⟨fun ia' w' σ' H' p => ?_, fun i ia' w' σ' H' hi p => ?_, fun i ia' w' σ' H' x H2 d p hd y => ?_⟩
  · rw [hl]
    exact Nat.le_refl _
  · rw [hl] at hi
    exact hi
  · obtain ⟨e, y⟩ := y
    refine ⟨e, ?_⟩
    unfold rangeD at hd
    rw [List.getElem?_map] at hd
    obtain ⟨k, hk, e2⟩ := Option.map_eq_some_iff.mp hd
    have hk2 : k = i := by
      obtain ⟨h1, h2⟩ := List.getElem?_eq_some_iff.mp hk
      simpa using h2.symm
    subst hk2
    rw [← e2, y]
    unfold Rep
    rfl
end
end RX

/-! F18: for, pairs, raise. -/
namespace RX
open PySem PySem.Spec PyProof.Rows
open L2 (Hp V HO VK XK WX upd Cx OpR R2 PE PT PA TE TA TT Gl Vis Inv EP PW CallR IxR Ends TS PS PSs Loc PG PGs TG TGs PSet TSet PI TI It)
/-- what is walked -/
def tI (F : Sf) (Wx : WX) (c : Ct) (it : E) : TI := fun σ H R => ∃ ia w, Fr F ia w σ H ∧ match evI c it w with
  | .ok xs w1 => ∀ J H1, Fr F ia w1 σ H1 → Le ia H H1 → (∀ b, Mu F ia w1 σ b → Mu F ia w σ b) → Walk F ia w1 σ H1 xs J → R J H1
  | .ex C fs w' => ∀ cls dd H', Fr F ia w' σ H' → Le ia H H' → (∀ b, Mu F ia w' σ b → Mu F ia w σ b) → ExRel F.p ia (Mu F ia w' σ) H' C fs cls dd → Wx cls dd σ H'
  | .bad => False
def chkI (ar : String → Nat → Bool) (cm : Bool) (sc : Scope) (N : List Str) (it : E) (e : Expr) : Bool := match it with
  | .itv a => head e && chk ar cm sc N .val a e
  | .rng1 a => (match dCall e with
    | some (x, _, [y], _) => gnB sc "range" x && (head y && chk ar cm sc N .val a y)
    | _ => false)
  | .rng2 a b => (match dCall e with
    | some (x, _, [y, z], _) => gnB sc "range" x && (head y && (head z && (chk ar cm sc N .val a y && chk ar cm sc N .val b z)))
    | _ => false)
  | _ => false
section
variable {fl : Flds} {F : Sf} {Wx : WX} {c : Ct} {sc : Scope} {N : List Str} {ar : String → Nat → Bool} {cm : Bool} {X : Cx} {m a b d : E} {e l r : Expr} {s1 s2 : S}
theorem pi_itv (cx : Cxt F Wx c sc N ar cm X) {tg : Expr} (h : PE X e (tE F Wx c a)) : PI X tg e (tI F Wx c (.itv a)) := by
  refine ⟨fun pins s σ H R I ⟨ia, w, f, q⟩ => ?_⟩
  have q' : (match (evE c a w).bind fun x w1 => opt (itemsOf x) w1 with
    | .ok xs w1 => ∀ J H1, Fr F ia w1 σ H1 → Le ia H H1 → (∀ b, Mu F ia w1 σ b → Mu F ia w σ b) → Walk F ia w1 σ H1 xs J → R J H1
    | .ex C fs w' => ∀ cls dd H', Fr F ia w' σ H' → Le ia H H' → (∀ b, Mu F ia w' σ b → Mu F ia w σ b) → ExRel F.p ia (Mu F ia w' σ) H' C fs cls dd → Wx cls dd σ H'
    | .bad => False) := q
  revert q'
  cases he : evE c a w with
  | ok x w1 =>
    cases x with
    | lst xs =>
      intro q'
      refine (L2.pi_list h).run pins s σ H R I ⟨ia, w, f, ?_⟩
      rw [he]
      intro v H1 f1 l1 s1 r1
      have r1' : Rep F.p ia (Mu F ia w1 σ) H1 (.lst xs) v := r1
      have r2 := r1'
      unfold Rep at r2
      obtain ⟨a', vs, rfl, h1, _⟩ := r2
      exact ⟨a', rfl, ⟨vs, L2.SqL.of h1⟩, q' _ H1 f1 l1 s1 (by rw [cx.hK]; exact walk_lst r1')⟩
    | frz xs =>
      intro q'
      refine (L2.pi_list h).run pins s σ H R I ⟨ia, w, f, ?_⟩
      rw [he]
      intro v H1 f1 l1 s1 r1
      have r1' : Rep F.p ia (Mu F ia w1 σ) H1 (.frz xs) v := r1
      have r2 := r1'
      unfold Rep at r2
      obtain ⟨a', vs, rfl, h1, _⟩ := r2
      exact ⟨a', rfl, ⟨vs, by rw [cx.hK]; exact h1.sq⟩, q' _ H1 f1 l1 s1 (by rw [cx.hK]; exact walk_frz r1')⟩
    | tup xs =>
      intro q'
      refine (L2.pi_tup h).run pins s σ H R I ⟨ia, w, f, ?_⟩
      rw [he]
      intro v H1 f1 l1 s1 r1
      have r1' : Rep F.p ia (Mu F ia w1 σ) H1 (.tup xs) v := r1
      have r2 := r1'
      unfold Rep at r2
      obtain ⟨a', vs, rfl, h1, _⟩ := r2
      exact ⟨a', rfl, ⟨vs, by rw [cx.hK]; exact h1⟩, q' _ H1 f1 l1 s1 (by rw [cx.hK]; exact walk_tup r1')⟩
    | _ => exact fun q' => q'.elim
  | ex C fs w' =>
    intro q'
    refine (L2.pi_list h).run pins s σ H R I ⟨ia, w, f, ?_⟩
    rw [he]
    exact q'
  | bad => exact fun q' => q'.elim
theorem rng_ok {i : Int} (h : rngOk i = true) : -(2 ^ 62) ≤ i ∧ i < 2 ^ 62 := by
  unfold rngOk at h
  obtain ⟨h1, h2⟩ := Bool.and_eq_true_iff.mp h
  have h1 := of_decide_eq_true h1
  have h2 := of_decide_eq_true h2
  exact ⟨by omega, by omega⟩
theorem pi_rng1 (cx : Cxt F Wx c sc N ar cm X) {tg : Expr} {x : Str} {p q : Pos} (hx : gnB sc "range" x = true) (hh : head l = true) (h : PE X l (tE F Wx c a)) : PI X tg (.Call (.Name x p) [l] [] q) (tI F Wx c (.rng1 a)) := by
  obtain ⟨rfl, g1, g2, g3⟩ := gn_ok hx
  refine ⟨fun pins s σ H R I ⟨ia, w, f, q⟩ => ?_⟩
  refine (L2.pi_range1 (cx_gl cx g1) (cx.blt "range" (by decide)) (L2.pa_cons h L2.pa_nil (star_head hh)) (by rw [star_head hh]; rfl)).run pins s σ H R I ⟨ia, w, f, ?_⟩
  have q' : (match (evE c a w).bind fun x w1 => (match x with
    | .int i => if rngOk i then .ok (rangeD 0 i.toNat) w1 else .bad
    | _ => RX.R.bad) with
    | .ok xs w1 => ∀ J H1, Fr F ia w1 σ H1 → Le ia H H1 → (∀ b, Mu F ia w1 σ b → Mu F ia w σ b) → Walk F ia w1 σ H1 xs J → R J H1
    | .ex C fs w' => ∀ cls dd H', Fr F ia w' σ H' → Le ia H H' → (∀ b, Mu F ia w' σ b → Mu F ia w σ b) → ExRel F.p ia (Mu F ia w' σ) H' C fs cls dd → Wx cls dd σ H'
    | .bad => False) := q
  revert q'
  cases he : evE c a w with
  | ok x w1 =>
    cases x with
    | int i =>
      intro q' v H1 f1 l1 s1 r1
      have q2 : (match (if rngOk i then RX.R.ok (rangeD 0 i.toNat) w1 else .bad) with
        | .ok xs w1 => ∀ J H1, Fr F ia w1 σ H1 → Le ia H H1 → (∀ b, Mu F ia w1 σ b → Mu F ia w σ b) → Walk F ia w1 σ H1 xs J → R J H1
        | .ex C fs w' => ∀ cls dd H', Fr F ia w' σ H' → Le ia H H' → (∀ b, Mu F ia w' σ b → Mu F ia w σ b) → ExRel F.p ia (Mu F ia w' σ) H' C fs cls dd → Wx cls dd σ H'
        | .bad => False) := q'
      have r2 : Rep F.p ia (Mu F ia w1 σ) H1 (.int i) v := r1
      unfold Rep at r2
      subst r2
      by_cases hi : rngOk i = true
      · rw [if_pos hi] at q2
        obtain ⟨k1, k2⟩ := rng_ok hi
        exact ⟨i, rfl, k1, k2, q2 _ H1 f1 l1 s1 (walk_rng 0 i.toNat)⟩
      · rw [if_neg hi] at q2
        exact q2.elim
    | _ => exact fun q' => q'.elim
  | ex C fs w' => exact fun q' => q'
  | bad => exact fun q' => q'.elim
theorem pi_rng2 (cx : Cxt F Wx c sc N ar cm X) {tg : Expr} {x : Str} {p q : Pos} (hx : gnB sc "range" x = true) (hh : head l = true) (hh2 : head r = true) (h : PE X l (tE F Wx c a)) (h2 : PE X r (tE F Wx c b)) : PI X tg (.Call (.Name x p) [l, r] [] q) (tI F Wx c (.rng2 a b)) := by
  obtain ⟨rfl, g1, g2, g3⟩ := gn_ok hx
  refine ⟨fun pins s σ H R I ⟨ia, w, f, q⟩ => ?_⟩
  refine (L2.pi_range2 (cx_gl cx g1) (cx.blt "range" (by decide)) (L2.pa_cons h (L2.pa_cons h2 L2.pa_nil (star_head hh2)) (star_head hh)) (by rw [star_head hh, star_head hh2]; rfl) (by rw [star_head hh2]; rfl)).run pins s σ H R I ⟨ia, w, f, ?_⟩
  have q' : (match (evE c a w).bind fun x w1 => (evE c b w1).bind fun y w2 => (match x, y with
    | .int i, .int j => if rngOk i && rngOk j then .ok (rangeD i (j - i).toNat) w2 else .bad
    | _, _ => RX.R.bad) with
    | .ok xs w1 => ∀ J H1, Fr F ia w1 σ H1 → Le ia H H1 → (∀ b, Mu F ia w1 σ b → Mu F ia w σ b) → Walk F ia w1 σ H1 xs J → R J H1
    | .ex C fs w' => ∀ cls dd H', Fr F ia w' σ H' → Le ia H H' → (∀ b, Mu F ia w' σ b → Mu F ia w σ b) → ExRel F.p ia (Mu F ia w' σ) H' C fs cls dd → Wx cls dd σ H'
    | .bad => False) := q
  revert q'
  cases he : evE c a w with
  | ok x w1 =>
    intro q' v H1 f1 l1 s1 r1
    refine ⟨ia, w1, f1, ?_⟩
    have q2 : (match (evE c b w1).bind fun y w2 => (match x, y with
      | .int i, .int j => if rngOk i && rngOk j then .ok (rangeD i (j - i).toNat) w2 else .bad
      | _, _ => RX.R.bad) with
      | .ok xs w1 => ∀ J H1, Fr F ia w1 σ H1 → Le ia H H1 → (∀ b, Mu F ia w1 σ b → Mu F ia w σ b) → Walk F ia w1 σ H1 xs J → R J H1
      | .ex C fs w' => ∀ cls dd H', Fr F ia w' σ H' → Le ia H H' → (∀ b, Mu F ia w' σ b → Mu F ia w σ b) → ExRel F.p ia (Mu F ia w' σ) H' C fs cls dd → Wx cls dd σ H'
      | .bad => False) := q'
    revert q2
    cases he2 : evE c b w1 with
    | ok y w2 =>
      intro q2 u H2 f2 l2 s2 r2
      cases x with
      | int i =>
        cases y with
        | int j =>
          have q3 : (match (if rngOk i && rngOk j then RX.R.ok (rangeD i (j - i).toNat) w2 else .bad) with
            | .ok xs w1 => ∀ J H1, Fr F ia w1 σ H1 → Le ia H H1 → (∀ b, Mu F ia w1 σ b → Mu F ia w σ b) → Walk F ia w1 σ H1 xs J → R J H1
            | .ex C fs w' => ∀ cls dd H', Fr F ia w' σ H' → Le ia H H' → (∀ b, Mu F ia w' σ b → Mu F ia w σ b) → ExRel F.p ia (Mu F ia w' σ) H' C fs cls dd → Wx cls dd σ H'
            | .bad => False) := q2
          have r3 : Rep F.p ia (Mu F ia w1 σ) H1 (.int i) v := r1
          unfold Rep at r3
          subst r3
          have r4 : Rep F.p ia (Mu F ia w2 σ) H2 (.int j) u := r2
          unfold Rep at r4
          subst r4
          by_cases hi : (rngOk i && rngOk j) = true
          · rw [if_pos hi] at q3
            obtain ⟨hi, hj⟩ := Bool.and_eq_true_iff.mp hi
            obtain ⟨k1, k2⟩ := rng_ok hi
            obtain ⟨k3, k4⟩ := rng_ok hj
            exact ⟨i, j, rfl, ⟨k1, k2, k3, k4⟩, q3 _ H2 f2 (l1.trans l2) (fun b z => s1 b (s2 b z)) (walk_rng i (j - i).toNat)⟩
          · rw [if_neg hi] at q3
            exact q3.elim
        | _ => exact q2.elim
      | _ => cases y <;> exact q2.elim
    | ex C fs w' => exact fun q2 cls dd H' f2 l2 s2 x => q2 cls dd H' f2 (l1.trans l2) (fun b z => s1 b (s2 b z)) x
    | bad => exact fun q2 => q2.elim
  | ex C fs w' => exact fun q' => q'
  | bad => exact fun q' => q'.elim
theorem pi_chk (cx : Cxt F Wx c sc N ar cm X) {tg : Expr} {it : E} (h : chkI ar cm sc N it e = true) : PI X tg e (tI F Wx c it) ∧ head e = true := by
  unfold chkI at h
  split at h
  · rename_i a
    obtain ⟨h1, h2⟩ := Bool.and_eq_true_iff.mp h
    exact ⟨pi_itv cx ((sound_E a cx).val e h2), h1⟩
  · rename_i a
    split at h
    · rename_i x _ y _ hd
      obtain ⟨x', q', es', p', ez, rfl⟩ := dCall_ok hd
      cases ez
      simp only [Bool.and_eq_true] at h
      obtain ⟨h1, h2, h3⟩ := h
      exact ⟨pi_rng1 cx h1 h2 ((sound_E a cx).val _ h3), rfl⟩
    · cases h
  · rename_i a b
    split at h
    · rename_i x _ y z _ hd
      obtain ⟨x', q', es', p', ez, rfl⟩ := dCall_ok hd
      cases ez
      simp only [Bool.and_eq_true] at h
      obtain ⟨h1, h2, h3, h4, h5⟩ := h
      exact ⟨pi_rng2 cx h1 h2 h3 ((sound_E a cx).val _ h4) ((sound_E b cx).val _ h5), rfl⟩
    · cases h
  · cases h
theorem st_for (cs : CxS fl F Wx c sc N ar cm X) (hcm : cm = true) {is : List Nat} {tg : Expr} {it : E} {body : List Stmt} {q : Pos} (ht : tgB sc N is tg = true) (hi : chkI ar cm sc N it e = true) (hb : PSs X body (tS fl F Wx c s1)) : PS X (.For tg e body [] q) (tS fl F Wx c (.for_ is it s1)) := by
  obtain ⟨pi, hh⟩ := pi_chk cs.cx (tg := tg) hi
  refine ps_weak (L2.ps_for cs.pass (cs.cx.calm hcm) pi (pg_tg cs hcm ht) hb (fun x => by cases e <;> first | rfl | cases hh)) fun D σ H ⟨ia, w, f, q⟩ => ?_
  have q' : PostS F Wx D ia w σ H ((evI c it w).bind fun xs w1 => forL (fun x w2 => (setT is x w2).bind fun _ w3 => evS fl c s1 w3) xs w1) := q
  refine ⟨ia, w, f, ?_⟩
  revert q'
  cases evI c it w with
  | ok xs w1 => exact fun q' J H1 f1 l1 s1 wk => for_walk wk f1 (PostS.base q' (Pers.of l1 s1))
  | ex C fs w' => exact fun q' cls dd H' f1 l1 s1 x => q' cls dd σ ia H' f1 (Pers.of l1 s1) x
  | bad => exact fun q' => q'
/-! ### a, b = x, y -/
def parB (sc : Scope) (N : List Str) (i j : Nat) (x y : Str) (px py : Pos) (a b : Expr) : Bool :=
  decide (N[i]? = some x) && (decide (N[j]? = some y) && (decide (i ≠ j) && (decide (sc.names.lookup x = some .local) && (decide (sc.names.lookup y = some .local) && (decide (px.line = py.line) && (head a && (head b && (!(foldedForSure 8 a && foldedForSure 8 b) && !(constantsAlone 8 a && constantsAlone 8 b)))))))))
theorem st_par (cs : CxS fl F Wx c sc N ar cm X) (hcm : cm = true) {i j : Nat} {x y : Str} {px py pt p2 q : Pos} {kt k2 : Nat} (h : parB sc N i j x y px py l r = true) (ha : PE X l (tE F Wx c a)) (hb : PE X r (tE F Wx c b)) :
    PS X (.Assign [.Tuple [.Name x px, .Name y py] kt pt] (.Tuple [l, r] k2 p2) q) (tS fl F Wx c (.par i j a b)) := by
  unfold parB at h
  simp only [Bool.and_eq_true, Bool.not_eq_true', decide_eq_true_eq] at h
  obtain ⟨h1, h2, h3, h4, h5, h6, h7, h8, h9, h10⟩ := h
  have hxy : x ≠ y := fun z => by
    subst z
    obtain ⟨a1, b1⟩ := List.getElem?_eq_some_iff.mp h1
    obtain ⟨a2, b2⟩ := List.getElem?_eq_some_iff.mp h2
    exact h3 ((List.getElem_inj cs.cx.nd).mp (b1.trans b2.symm))
  have pa : PA X [l, r] (L2.tCons (tE F Wx c a) (L2.tCons (tE F Wx c b) L2.tNil)) := L2.pa_cons ha (L2.pa_cons hb L2.pa_nil (star_head h8)) (star_head h7)
  have main : ∀ (hw : swappedStores [.Tuple [.Name x px, .Name y py] kt pt] (.Tuple [l, r] k2 p2) X.env = pure (some [x, y])), PS X (.Assign [.Tuple [.Name x px, .Name y py] kt pt] (.Tuple [l, r] k2 p2) q) (tS fl F Wx c (.par i j a b)) := fun hw => by
    refine ps_weak (L2.ps_par (i := i) (j := j) (cs.cx.calm hcm) (by rw [cs.cx.hN]; exact cs.cx.nd) (by rw [cs.cx.hN]; exact h1) (by rw [cs.cx.hN]; exact h2) h3 (by rw [cs.cx.hsc]; exact h4) (by rw [cs.cx.hsc]; exact h5) pa hw rfl) fun D σ H ⟨ia, w, f, q⟩ => ?_
    have q' : PostS F Wx D ia w σ H ((evE c a w).bind fun x w1 => (evE c b w1).bind fun y w2 => .ok .next (setSl (setSl w2 i (.val x)) j (.val y))) := q
    refine ⟨ia, w, f, q'.bindE fun x w1 v H1 f1 l1 s1 r1 h1 => ⟨ia, w1, f1, h1.bindE fun y w2 u H2 f2 l2 s2 r2 h2 => ⟨v, u, rfl, ?_⟩⟩⟩
    have r1' : Rep F.p ia (Mu F ia w2 σ) H2 x v := Pers.of l2 s2 _ _ r1
    obtain ⟨f3, s3⟩ := f2.setS (i := i) (s := .val x) (o := some v) rfl fun d' e' => by
      cases e'
      exact ⟨v, rfl, r1'⟩
    obtain ⟨f4, s4⟩ := f3.setS (i := j) (s := .val y) (o := some u) rfl fun d' e' => by
      cases e'
      exact ⟨u, rfl, Pers.sub s3 _ _ r2⟩
    exact h2 _ ia H2 f4 ((Pers.sub s3).trans (Pers.sub s4))
  refine ⟨fun pins s σ H D I hq => (main ?_).run pins s σ H D I hq⟩
  have kx : X.env.kindOf x = some .local := by
    show X.env.scope.names.lookup x = _
    rw [cs.cx.hsc]
    exact h4
  have ky : X.env.kindOf y = some .local := by
    show X.env.scope.names.lookup y = _
    rw [cs.cx.hsc]
    exact h5
  have hb : X.env.blockKind = .function := by
    unfold Env.blockKind
    rw [I.ok.kind]
    rfl
  have ff : ([l, r].all (foldedForSure 8)) = false := by
    rw [List.all_cons, List.all_cons, List.all_nil, Bool.and_true]
    exact h9
  have ca : ([l, r].all (constantsAlone 8)) = false := by
    rw [List.all_cons, List.all_cons, List.all_nil, Bool.and_true]
    exact h10
  have er : ([x, y] : List Str).eraseDups = [x, y] := by
    have : (y == x) = false := by
      refine beq_eq_false_iff_ne.mpr fun z => hxy z.symm
    simp [List.eraseDups, List.eraseDupsBy, List.eraseDupsBy.loop, this]
  unfold swappedStores
  dsimp only
  rw [hb]
  refine (if_neg (by intro z; cases z)).trans ?_
  refine (if_neg ?_).trans ?_
  · intro z
    cases l <;> cases r <;> first | (cases z; done) | (cases h7; done) | (cases h8; done)
  have e1 : ((List.head? [Expr.Name x px, Expr.Name y py]).map (·.pos.line)).getD 0 = px.line := rfl
  rw [ff, ca, e1]
  have k1 : (X.env.kindOf x == some NameKind.local && px.line == px.line) = true := by rw [kx]; simp
  have k2 : (X.env.kindOf y == some NameKind.local && py.line == px.line) = true := by rw [ky, h6]; simp
  simp only [List.filterMap_cons, List.filterMap_nil, k1, k2, if_true, er]
  rfl
/-! ### raise -/
theorem zip_fs {p : Pm} {ia : List Addr} {O : Addr → Prop} {H : Hp} : ∀ {fs : List String} {ds : List D} {vs : List V}, fs.length = ds.length → Reps p ia O H ds vs → RepFs p ia O H (fs.zip ds) ((fs.map Str.ofString).zip vs)
  | [], ds, vs, hl, h => by
    unfold RepFs
    rfl
  | f :: fs, [], vs, hl, h => by cases hl
  | f :: fs, d :: ds, vs, hl, h => by
    unfold Reps at h
    obtain ⟨v, r, e, h1, h2⟩ := h
    subst e
    show RepFs p ia O H ((f, d) :: fs.zip ds) ((Str.ofString f, v) :: (fs.map Str.ofString).zip r)
    unfold RepFs
    exact ⟨v, _, rfl, h1, zip_fs (Nat.succ.inj hl) h2⟩
theorem fs_append {p : Pm} {ia : List Addr} {O : Addr → Prop} {H : Hp} : ∀ {xs ys : List (String × D)} {vs us : List (Str × V)}, RepFs p ia O H xs vs → RepFs p ia O H ys us → RepFs p ia O H (xs ++ ys) (vs ++ us)
  | [], _, vs, _, h, g => by
    unfold RepFs at h
    rw [h]
    exact g
  | (f, d) :: ds, es, vs, us, h, g => by
    unfold RepFs at h
    obtain ⟨v, r, ev, h1, h⟩ := h
    rw [ev, List.cons_append, List.cons_append]
    unfold RepFs
    exact ⟨v, r ++ us, rfl, h1, fs_append h g⟩
theorem fs_reverse {p : Pm} {ia : List Addr} {O : Addr → Prop} {H : Hp} : ∀ {xs : List (String × D)} {vs : List (Str × V)}, RepFs p ia O H xs vs → RepFs p ia O H xs.reverse vs.reverse
  | [], vs, h => by
    unfold RepFs at h
    rw [h]
    unfold RepFs
    rfl
  | (f, d) :: ds, vs, h => by
    unfold RepFs at h
    obtain ⟨v, r, ev, h1, h⟩ := h
    rw [ev, List.reverse_cons, List.reverse_cons]
    refine fs_append (fs_reverse h) ?_
    unfold RepFs
    exact ⟨v, [], rfl, h1, by unfold RepFs; rfl⟩
theorem st_rais (cs : CxS fl F Wx c sc N ar cm X) (hcm : cm = true) {C : String} {fs : List String} {x : Str} {p p1 q : Pos} {es : List Expr} {as : E} (hx : gnB sc C x = true) (hf : fl C = some fs) (hl : es.length = fs.length) (hs : ∀ e ∈ es, head e = true) (hn : es = [] → as = .nil) (h : PA X es (tEs F Wx c as)) :
    PS X (.Raise (some (.Call (.Name x p) es [] p1)) none q) (tS fl F Wx c (.rais C as)) := by
  obtain ⟨ex, g1, g2, g3⟩ := gn_ok hx
  obtain ⟨Ca, hm, hr⟩ : RaiseR X C fs := cs.rs hcm C fs hf X.pn X.xe
  obtain ⟨hr0, hr1⟩ := hr x p p1 ex (cx_gl cs.cx g1) g2
  cases fs with
  | nil =>
    have e0 : es = [] := List.length_eq_zero_iff.mp hl
    subst e0
    have ea := hn rfl
    subst ea
    refine ps_weak (L2.ps_raise (cs.cx.calm hcm) cs.cx.tk (hr0 rfl)) fun D σ H ⟨ia, w, f, q⟩ => ?_
    have q' : PostS F Wx D ia w σ H ((evEs c .nil w).bind fun ds w1 => match fl C with
      | some fs => if fs.length = ds.length then .ex C (fs.zip ds).reverse w1 else .bad
      | none => .bad) := q
    rw [hf] at q'
    have q2 : PostS F Wx D ia w σ H (.ex C [] w) := q'
    exact q2 (.ref Ca) none σ ia H f Pers.refl ⟨Ca, by rw [← cs.cx.hmg]; exact hm, rfl, rfl⟩
  | cons f0 fs0 =>
    have hp := hr1 (by simp) es (tEs F Wx c as) hl hs h
    refine ps_weak (L2.ps_raise (cs.cx.calm hcm) cs.cx.tk hp) fun D σ H ⟨ia, w, f, q⟩ => ?_
    have q' : PostS F Wx D ia w σ H ((evEs c as w).bind fun ds w1 => match fl C with
      | some fs => if fs.length = ds.length then .ex C (fs.zip ds).reverse w1 else .bad
      | none => .bad) := q
    refine ⟨ia, w, f, q'.bindE fun ds w1 vs H1 f1 l1 s1 r1 h1 => ?_⟩
    rw [hf] at h1
    dsimp only at h1
    by_cases hd : (f0 :: fs0).length = ds.length
    · rw [if_pos hd] at h1
      have r1' : Reps F.p ia (Mu F ia w1 σ) H1 ds vs := r1
      refine ⟨by rw [r1'.length, hd], fun dx hdx => ?_⟩
      have f2 := f1.alloc (o := .xd (((f0 :: fs0).map Str.ofString).zip vs).reverse) hdx
      have l2 : Le ia H1 (upd H1 dx (.xd (((f0 :: fs0).map Str.ofString).zip vs).reverse)) := Le.alloc hdx
      exact h1 (.ref Ca) (some dx) σ ia _ f2 (Pers.of l2 fun _ z => z) ⟨Ca, by rw [← cs.cx.hmg]; exact hm, rfl, _, L2.upd_same, f1.fresh hdx, fs_reverse (zip_fs hd (Reps.on (f1.on l2) _ _ r1'))⟩
    · rw [if_neg hd] at h1
      exact h1.elim
end
end RX

/-! F19: try; every checked statement is sound. -/
namespace RX
open PySem PySem.Spec PyProof.Rows
open L2 (Hp V HO VK XK WX upd Cx OpR R2 PE PT PA TE TA TT Gl Vis Inv EP PW CallR IxR Ends TS PS PSs Loc PG PGs TG TGs PSet TSet PI TI It)
section
variable {p p' : Pm} {ia : List Addr} {O : Addr → Prop} {H : Hp}
mutual
theorem Rep.px (hK : p.K = p'.K) (hm : p.mg = p'.mg) : ∀ (d : D) (v : V), (p.x0 = none ∨ noX d = true) → Rep p ia O H d v → Rep p' ia O H d v
  | .non, _, _, h => h
  | .bl _, _, _, h => h
  | .int _, _, _, h => h
  | .str _, _, _, h => h
  | .tup ds, v, k, h => by
    unfold Rep at h ⊢
    obtain ⟨a, vs, e, q, r⟩ := h
    exact ⟨a, vs, e, by rw [← hK]; exact q, Reps.px hK hm ds vs (k.imp_right fun z => by unfold noX at z; exact z) r⟩
  | .lst ds, v, k, h => by
    unfold Rep at h ⊢
    obtain ⟨a, vs, e, q, n, r⟩ := h
    exact ⟨a, vs, e, q, n, Reps.px hK hm ds vs (k.imp_right fun z => by unfold noX at z; exact z) r⟩
  | .frz ds, v, k, h => by
    unfold Rep at h ⊢
    obtain ⟨a, vs, e, q, r⟩ := h
    exact ⟨a, vs, e, by rw [← hK]; exact q, Reps.px hK hm ds vs (k.imp_right fun z => by unfold noX at z; exact z) r⟩
  | .dic kvs, v, k, h => by
    unfold Rep at h ⊢
    obtain ⟨a, vs, e, q, n, r⟩ := h
    exact ⟨a, vs, e, q, n, RepKs.px hK hm kvs vs (k.imp_right fun z => by unfold noX at z; exact z) r⟩
  | .obj C fs, v, k, h => by
    unfold Rep at h ⊢
    obtain ⟨a, Ca, dx, fv, e, q, n, m, r⟩ := h
    exact ⟨a, Ca, dx, fv, e, q, n, by rw [← hm]; exact m, RepFs.px hK hm fs fv (k.imp_right fun z => by unfold noX at z; exact z) r⟩
  | .ref i, v, _, h => by
    unfold Rep at h ⊢
    exact h
  | .fn f, v, _, h => by
    unfold Rep at h ⊢
    rw [← hm]
    exact h
  | .exc C fs, v, k, h => by
    unfold Rep at h
    obtain ⟨a, dd, e, _⟩ := h
    rcases k with k | k
    · rw [k] at e
      cases e
    · unfold noX at k
      cases k
theorem Reps.px (hK : p.K = p'.K) (hm : p.mg = p'.mg) : ∀ (ds : List D) (vs : List V), (p.x0 = none ∨ noXs ds = true) → Reps p ia O H ds vs → Reps p' ia O H ds vs
  | [], _, _, h => by
    unfold Reps at h ⊢
    exact h
  | d :: ds, vs, k, h => by
    unfold Reps at h ⊢
    obtain ⟨v, r, e, h1, h2⟩ := h
    exact ⟨v, r, e, Rep.px hK hm d v (k.imp_right fun z => by unfold noXs at z; exact (Bool.and_eq_true_iff.mp z).1) h1, Reps.px hK hm ds r (k.imp_right fun z => by unfold noXs at z; exact (Bool.and_eq_true_iff.mp z).2) h2⟩
theorem RepKs.px (hK : p.K = p'.K) (hm : p.mg = p'.mg) : ∀ (ds : List (Ky × D)) (vs : List (L2.Key × V)), (p.x0 = none ∨ noXk ds = true) → RepKs p ia O H ds vs → RepKs p' ia O H ds vs
  | [], _, _, h => by
    unfold RepKs at h ⊢
    exact h
  | (kk, d) :: ds, vs, k, h => by
    unfold RepKs at h ⊢
    obtain ⟨v, r, e, h1, h2⟩ := h
    exact ⟨v, r, e, Rep.px hK hm d v (k.imp_right fun z => by unfold noXk at z; exact (Bool.and_eq_true_iff.mp z).1) h1, RepKs.px hK hm ds r (k.imp_right fun z => by unfold noXk at z; exact (Bool.and_eq_true_iff.mp z).2) h2⟩
theorem RepFs.px (hK : p.K = p'.K) (hm : p.mg = p'.mg) : ∀ (ds : List (String × D)) (vs : List (Str × V)), (p.x0 = none ∨ noXf ds = true) → RepFs p ia O H ds vs → RepFs p' ia O H ds vs
  | [], _, _, h => by
    unfold RepFs at h ⊢
    exact h
  | (kk, d) :: ds, vs, k, h => by
    unfold RepFs at h ⊢
    obtain ⟨v, r, e, h1, h2⟩ := h
    exact ⟨v, r, e, Rep.px hK hm d v (k.imp_right fun z => by unfold noXf at z; exact (Bool.and_eq_true_iff.mp z).1) h1, RepFs.px hK hm ds r (k.imp_right fun z => by unfold noXf at z; exact (Bool.and_eq_true_iff.mp z).2) h2⟩
end
theorem Cell.px (hK : p.K = p'.K) (hm : p.mg = p'.mg) {d : D} {a : Addr} (k : p.x0 = none ∨ noX d = true) (h : Cell p ia O H d a) : Cell p' ia O H d a := by
  cases d with
  | lst ds =>
    obtain ⟨vs, e, r⟩ := h
    exact ⟨vs, e, Reps.px hK hm ds vs (k.imp_right fun z => by unfold noX at z; exact z) r⟩
  | dic ds =>
    obtain ⟨vs, e, r⟩ := h
    exact ⟨vs, e, RepKs.px hK hm ds vs (k.imp_right fun z => by unfold noX at z; exact z) r⟩
  | _ => exact h.elim
end
/-- a frame's fixed things, with a caught error -/
def Sf.wx (F : Sf) (x : Addr × String × Option Addr) : Sf := { F with p := { F.p with x0 := some x } }
section
variable {fl : Flds} {F : Sf} {Wx : WX} {c : Ct} {sc : Scope} {N : List Str} {ar : String → Nat → Bool} {cm : Bool} {X : Cx} {m a b d : E} {e l r : Expr} {s1 s2 : S}
theorem Fr.wx {x : Addr × String × Option Addr} {ia : List Addr} {w : W} {σ : L2.St} {H : Hp} (hx : F.p.x0 = none) (f : Fr F ia w σ H) : Fr (F.wx x) ia w σ H :=
  ⟨f.le, f.tabs, f.io, f.o0, f.pre, f.new, f.ind, f.ilen, fun i a d h1 h2 => Cell.px (p := F.p) (p' := (F.wx x).p) rfl rfl (.inl hx) (f.cells i a d h1 h2), fun i d h => by
    obtain ⟨v, e, r⟩ := f.slv i d h
    exact ⟨v, e, Rep.px (p := F.p) (p' := (F.wx x).p) rfl rfl d v (.inl hx) r⟩, fun i d h => by
    obtain ⟨a, e, c, n, m⟩ := f.slo i d h
    exact ⟨a, e, Cell.px (p := F.p) (p' := (F.wx x).p) rfl rfl (.inl hx) c, n, m⟩, f.uniq, f.len, f.cnt⟩
theorem noX_mem : ∀ {ds : List D} {i : Nat} {d : D}, noXs ds = true → ds[i]? = some d → noX d = true
  | [], _, _, _, h => by simp at h
  | x :: r, 0, d, k, h => by
    simp at h
    subst h
    unfold noXs at k
    exact (Bool.and_eq_true_iff.mp k).1
  | x :: r, i + 1, d, k, h => by
    unfold noXs at k
    exact noX_mem (Bool.and_eq_true_iff.mp k).2 (by simpa using h)
/-- the suite has returned -/
theorem Fr.unwx {x : Addr × String × Option Addr} {ia : List Addr} {w : W} {σ : L2.St} {H : Hp} (f : Fr (F.wx x) ia w σ H) (hn : noXs w.cs = true) :
    Fr F ia ⟨w.sl.map fun _ => .no, w.cs⟩ σ H ∧ (∀ b, Mu F ia ⟨w.sl.map fun _ => .no, w.cs⟩ σ b → Mu F ia w σ b) := by
  have no : ∀ (i : Nat) (s : Sl), ((w.sl.map fun _ => Sl.no)[i]?) = some s → s = .no := fun i s h => by
    rw [List.getElem?_map] at h
    obtain ⟨_, _, e⟩ := Option.map_eq_some_iff.mp h
    exact e.symm
  have sub : ∀ b, Mu F ia ⟨w.sl.map fun _ => .no, w.cs⟩ σ b → Mu F ia w σ b := fun b z => by
    rcases z with z | z | ⟨i, d, z, _⟩
    · exact .inl z
    · exact .inr (.inl z)
    · rcases z with z | z <;> exact absurd (no i _ z) (by intro z; cases z)
  have on : On ia ia (Mu F ia w σ) (Mu F ia ⟨w.sl.map fun _ => .no, w.cs⟩ σ) H H := ⟨Le.refl, fun b hb => .inr (.inl hb), fun b hb => .inl (sub b hb), fun _ _ h => h⟩
  refine ⟨⟨f.le, f.tabs, f.io, f.o0, f.pre, f.new, f.ind, f.ilen, fun i a d h1 h2 => ?_, fun i d h => ?_, fun i d h => ?_, fun i j a d e h => ?_, by simpa using f.len, f.cnt⟩, sub⟩
  rotate_left
  · exact absurd (no i _ h) (by intro z; cases z)
  · rcases h with h | h
    · exact absurd (no i _ h) (by intro z; cases z)
    · exact absurd (no i _ h) (by intro z; cases z)
  · rcases h with h | h
    · exact absurd (no i _ h) (by intro z; cases z)
    · exact absurd (no i _ h) (by intro z; cases z)
  exact (Cell.px (p := (F.wx x).p) (p' := F.p) rfl rfl (.inr (noX_mem hn h2)) (f.cells i a d h1 h2)).on on fun _ q => q
/-- the body of a try -/
theorem arL_ar {f : String} {n : Nat} (h : arL ar f n = true) : ar f n = true := (Bool.and_eq_true_iff.mp h).2
theorem CxS.toTry (cs : CxS fl F Wx c sc N ar cm X) (hcm : cm = true) {W : WX} {pn : List (Addr × Obj)} {xe : Value → Shared → Prop} (tk : L2.Takes (X.tr pn xe) W) (ps : PassesOwn (model X.prog X.w) X.A X.env xe) : CxS fl F W c sc N (arL ar) cm (X.tr pn xe) :=
  ⟨⟨cs.cx.hK, cs.cx.hmg, cs.cx.hsc, cs.cx.hN, cs.cx.hn, cs.cx.nd, tk, cs.cx.un, cs.cx.calm, cs.cx.blt, fun h f n hn har => cs.cx.call h f n hn (arL_ar har), fun C h => cs.cx.kcl C (arL_ar h), (fun a C dd h => by rw [cs.x0 hcm] at h; cases h), (fun a C dd f h => by rw [cs.x0 hcm] at h; cases h), (fun _ g hg => by unfold arL at hg; simp at hg), fun _ => cs.x0 hcm, fun f n hn h => cs.cx.glo f n hn (arL_ar h)⟩,
    ps, cs.fn, cs.stk, cs.frm, fun h C fs hf pn' xe' => cs.rs h C fs hf pn' xe', cs.x0, fun C fs C0 h1 h2 => cs.exm C fs C0 h1 (arL_ar h2), fun C fs Ca f h1 h2 h3 => cs.nof C fs Ca f h1 h2 (arL_ar h3), fun C fs h => by
      obtain ⟨Ca, h1, h2, h3⟩ := cs.exc C fs h
      exact ⟨Ca, h1, h2, fun cn b h4 h5 => h3 cn b h4 fun n e => arL_ar (h5 n e)⟩⟩
/-- isinstance of the caught error, whether it has attributes or none -/
theorem call_isX {X : Cx} {a D : Addr} {d : Option Addr} {oe : Obj} {pn : List (Addr × Obj)} (C : L2.ExcC X.K D) (hz : L2.Zc (.ref D) d oe) (hf : ∃ vs, oe.data = .fields vs) (hd : ∀ dx, d = some dx → True) :
    CallR (X.suite a ((a, oe) :: pn)) (.builtin "isinstance") (fun xs H Q => ∃ (c : V) (cv : Value) (b : Bool), xs = [.ref a, c] ∧ (∀ u, L2.RelV c u → u = cv) ∧ PySem.W.kitOne X.K (.ref D) cv = some b ∧ (∀ dx, d = some dx → ∃ fs, H dx = some (.xd fs)) ∧ Q (.bl b) H) := by
  intro pins s σ H xs us Q I r h
  obtain ⟨c, cv, b, rfl, hcv, e, hdx, q⟩ := h
  cases r with
  | cons rx rr =>
    cases rr with
    | cons rt rr =>
      cases rr
      cases rx
      have ec := hcv _ rt
      subst ec
      obtain ⟨hget, _⟩ := I.pin (a, oe) (List.mem_append.mpr (.inl List.mem_cons_self))
      obtain ⟨vs, hv⟩ := hf
      have hcl : (PySem.W.clsIn X.K D).isSome = true := by
        obtain ⟨cd, hc, _⟩ := PySem.W.any_some C.hd
        rw [hc]
        rfl
      have J : ∃ od, PySem.W.InstAt s.heap a oe D od := by
        have nc : PySem.W.notCls oe = true := by unfold PySem.W.notCls; rw [hv]
        cases d with
        | none => exact ⟨none, hget, hz.1, nc, by rw [hz.2]; exact trivial⟩
        | some dx =>
          obtain ⟨fs, hx⟩ := hdx dx rfl
          have hok : L2.ObjOk X.prog X.w H s.heap dx (.xd fs) := I.hok dx _ hx
          obtain ⟨mA, hns, _⟩ := hok
          obtain ⟨od, ho, _⟩ := L2.lookIn_ns hns
          exact ⟨some od, hget, hz.1, nc, by rw [hz.2]; exact ho⟩
      obtain ⟨od, J⟩ := J
      exact PySem.W.kia_one (PySem.W.kitx_exc hcl C.hg C.hk C.hs C.ha C.hn C.ht C.hm) I.kIn J e (fun z => nomatch z) fun tk => ⟨.bl b, H, I.kept (t' := tk) fun _ _ z => z, rfl, q⟩
/-- what is known of the text's classes -/
structure Stc (fl : Flds) (ar : String → Nat → Bool) (K : PySem.W.Frag) (mg : Str → Option Value) : Prop where
  blt : ∀ x ∈ bltNames, mg (Str.ofString x) = none
  kcl : ∀ C, ar C 999 = true → ∃ Ca, mg (Str.ofString C) = some (.ref Ca) ∧ ∀ t ∈ tyTs, PySem.W.kitOne K (.type t) (.ref Ca) = some false
  glo : ∀ f n, n < 900 → ar f n = true → ∃ a, mg (Str.ofString f) = some (.ref a)
  exm : ∀ C fs C0, fl C = some fs → ar C0 999 = true → ∃ Ca Cb, mg (Str.ofString C) = some (.ref Ca) ∧ mg (Str.ofString C0) = some (.ref Cb) ∧ PySem.W.exmOne K (.ref Ca) (.ref Cb) = some (isExc C C0)
  nof : ∀ C fs Ca f, fl C = some fs → mg (Str.ofString C) = some (.ref Ca) → ar f 998 = true → PySem.W.findIn K (.ref Ca) (Str.ofString f) = some none
  exc : ∀ C fs, fl C = some fs → ∃ Ca, mg (Str.ofString C) = some (.ref Ca) ∧ L2.ExcC K Ca ∧ ∀ cn b, isInst (.exc C []) cn = some b → (∀ n, cn = .cl n → ar n 999 = true) → ∃ v cv, (match cn with
    | .ty n => v = V.ty n
    | .cl n => ∃ Cb, mg (Str.ofString n) = some (.ref Cb) ∧ v = .ref Cb) ∧ (∀ u, L2.RelV v u → u = cv) ∧ PySem.W.kitOne K (.ref Ca) cv = some b
theorem CxS.stc (cs : CxS fl F Wx c sc N ar cm X) : Stc fl ar X.K X.mg := ⟨cs.cx.blt, cs.cx.kcl, cs.cx.glo, cs.exm, cs.nof, fun C fs h => by
  obtain ⟨Ca, h1, h2, h3⟩ := cs.exc C fs h
  refine ⟨Ca, h1, h2, fun cn b h4 h5 => ?_⟩
  obtain ⟨v, cv, k1, k2, k3⟩ := h3 cn b h4 h5
  refine ⟨v, cv, ?_, k2, k3⟩
  cases cn <;> exact k1⟩
theorem Stc.cnV {v : V} {cn : Cn} (h : match cn with
    | .ty n => v = V.ty n
    | .cl n => ∃ Cb, X.mg (Str.ofString n) = some (.ref Cb) ∧ v = .ref Cb) : CnV X cn v := by
  cases cn <;> exact h
/-- the suite of a try -/
theorem Stc.suite (st : Stc fl ar X.K X.mg) (hK : X.K = F.p.K) (hmg : X.mg = F.p.mg) (hsc : X.env.scope = sc) (hN : X.N = N) (hn : F.n = N.length) (nd : N.Nodup) (un : X.A.units + 64 < cLine) (hfn : ∀ x, X.fn x = true) (stk : X.stack = X.env :: X.outer) (frm : X.env.frame = some X.env.locals)
    {a Ca : Addr} {C : String} {fs : List String} {d : Option Addr} {oe : Obj} {pn : List (Addr × Obj)} (hf : fl C = some fs) (hm : X.mg (Str.ofString C) = some (.ref Ca)) (hz : L2.Zc (.ref Ca) d oe) (hv : ∃ vs, oe.data = .fields vs) :
    CxS fl (F.wx (a, C, d)) (fun _ _ _ _ => False) c sc N (arL ar) false (X.suite a ((a, oe) :: pn)) := by
  obtain ⟨Ca', hm', EC, ki⟩ := st.exc C fs hf
  rw [hm] at hm'
  cases hm'
  refine ⟨⟨hK, hmg, hsc, hN, hn, nd, ?_, un, (fun z => by cases z), st.blt, (fun z => by cases z), fun C h => st.kcl C (arL_ar h), ?_, ?_, (fun z => by cases z), (fun hg => by unfold arL at hg; simp at hg), fun f n hn h => st.glo f n hn (arL_ar h)⟩, PassesOwn.never, hfn, stk, frm, (fun z => by cases z), (fun z => by cases z), fun C fs C0 h1 h2 => st.exm C fs C0 h1 (arL_ar h2), fun C fs Ca f h1 h2 h3 => st.nof C fs Ca f h1 h2 (arL_ar h3), fun C fs h => by
      obtain ⟨Ca, h1, h2, h3⟩ := st.exc C fs h
      refine ⟨Ca, h1, h2, fun cn b h4 h5 => ?_⟩
      obtain ⟨v, cv, k1, k2, k3⟩ := h3 cn b h4 fun n e => arL_ar (h5 n e)
      exact ⟨v, cv, Stc.cnV (X := X.suite a ((a, oe) :: pn)) k1, k2, k3⟩⟩
  · intro u s' h
    obtain ⟨a, B, sI, pins, σ, H, cls, d, e, I, nb, up, sky, na, os, ag, w⟩ := h
    exact w
  · intro a2 C2 dd2 h0 cn b h1 h2
    have e : (a, C, d) = (a2, C2, dd2) := Option.some.inj h0
    cases e
    obtain ⟨v, cv, k1', k2, k3⟩ := ki cn b h1 fun n e => arL_ar (h2 n e)
    have k1 : CnV X cn v := Stc.cnV k1'
    intro pins s σ H xs us Q I r h
    obtain ⟨v2, e2, k4, k5, q⟩ := h
    have : v2 = v := by
      cases cn with
      | ty n =>
        have e1 : v = .ty n := k1
        have e2 : v2 = .ty n := k4
        rw [e1, e2]
      | cl n =>
        obtain ⟨x1, y1, z1⟩ := k1
        obtain ⟨x2, y2, z2⟩ := k4
        have y2' : X.mg (Str.ofString n) = some (.ref x2) := y2
        rw [y1] at y2'
        cases y2'
        rw [z1, z2]
    subst this
    exact call_isX EC hz hv (fun _ _ => trivial) pins s σ H xs us Q I r ⟨v2, cv, b, e2, k2, k3, k5, q⟩
  · intro a2 C2 dd2 f h0 h1 e te pos he hb
    have e0 : (a, C, d) = (a2, C2, dd2) := Option.some.inj h0
    cases e0
    have T : L2.XfC X.K Ca := ⟨EC.hg, EC.hk, EC.hs, EC.hd⟩
    exact ⟨Ca, L2.pe_xf T (st.nof C fs Ca f hf hm (arL_ar h1)) hz hv he hb⟩
theorem CxS.suite (cs : CxS fl F Wx c sc N ar cm X) (hcm : cm = true) {a Ca : Addr} {C : String} {fs : List String} {d : Option Addr} {oe : Obj} {pn : List (Addr × Obj)} (hf : fl C = some fs) (hm : X.mg (Str.ofString C) = some (.ref Ca)) (hz : L2.Zc (.ref Ca) d oe) (hv : ∃ vs, oe.data = .fields vs) :
    CxS fl (F.wx (a, C, d)) (fun _ _ _ _ => False) c sc N (arL ar) false (X.suite a ((a, oe) :: pn)) := cs.stc.suite cs.cx.hK cs.cx.hmg cs.cx.hsc cs.cx.hN cs.cx.hn cs.cx.nd cs.cx.un cs.fn cs.stk cs.frm hf hm hz hv
theorem st_try (cs : CxS fl F Wx c sc N ar cm X) (hcm : cm = true) {C0 : String} {x n : Str} {i : Nat} {body suite : List Stmt} {b0 : Stmt} {np pos pos' : Pos} (hx : gnB sc C0 x = true) (har : ar C0 999 = true) (hi : N[i]? = some n) (hn : sc.names.lookup n = some .local)
    (hb : ∀ {W : WX} {X' : Cx}, CxS fl F W c sc N (arL ar) true X' → PSs X' body (tS fl F W c s1)) (hs : ∀ {F' : Sf} {W : WX} {X' : Cx}, CxS fl F' W c sc N (arL ar) false X' → PSs X' (b0 :: suite) (tS fl F' W c s2)) :
    PS X (.Try body [.ExceptHandler (some (.Name x np)) (some n) (b0 :: suite) pos'] [] [] pos) (tS fl F Wx c (.try_ s1 C0 i s2)) := by
  subst hcm
  obtain ⟨ex, g1, g2, g3⟩ := gn_ok hx
  have hx0 : F.p.x0 = none := cs.x0 rfl
  -- the class of the clause
  obtain ⟨Cb, hCb⟩ := cs.cx.kcl C0 har
  have nm : L2.Names X x (.ref Cb) := ⟨cx_gl cs.cx g1, g2, .inl (by rw [ex]; exact hCb.1)⟩
  have nd : X.N.Nodup := by rw [cs.cx.hN]; exact cs.cx.nd
  have hi' : X.N[i]? = some n := by rw [cs.cx.hN]; exact hi
  have hl' : X.env.kindOf n = some .local := by
    show X.env.scope.names.lookup n = _
    rw [cs.cx.hsc]
    exact hn
  let ts : Addr → Value → Option Addr → TS := fun a cls d D σ H => ∃ C fs Ca, fl C = some fs ∧ X.mg (Str.ofString C) = some (.ref Ca) ∧ cls = .ref Ca ∧ tS fl (F.wx (a, C, d)) (fun _ _ _ _ => False) c s2 D σ H
  refine ps_weak (L2.ps_try_as (tb := fun W => tS fl F W c s1) (ts := ts) cs.stk cs.frm nd hi' hl' nm cs.cx.tk (fun W pn xe tk ps => hb (cs.toTry rfl tk ps)) fun a oe cls d pn hz hv => ⟨fun pins s σ H D I h => ?_⟩) fun D σ H ⟨ia, w, f, q⟩ => ?_
  · obtain ⟨C, fs, Ca, h1, h2, h3, h4⟩ := h
    subst h3
    exact (hs (cs.suite rfl h1 h2 hz hv)).run pins s σ H D I h4
  · refine ⟨ia, w, f, ?_⟩
    have q' : PostS F Wx D ia w σ H (match evS fl c s1 w with
      | .ex C fs w1 => if (fl C).isNone then .bad else if isExc C C0 then (match evS fl c s2 (setSl w1 i (.val (.exc C fs))) with
          | .ok (.ret d _) w2 => if noX d && noXs w2.cs then .ok (.ret d false) ⟨w2.sl.map fun _ => .no, w2.cs⟩ else .bad
          | _ => .bad) else .ex C fs w1
      | r => r) := q
    revert q'
    cases he : evS fl c s1 w with
    | ok g w1 => cases g <;> exact fun q' => q'
    | bad => exact fun q' => q'
    | ex C fs w1 =>
      intro q' cls dd σ1 ia1 H1 f1 p1 xr
      dsimp only at q'
      cases hf : fl C with
      | none =>
        rw [hf] at q'
        exact q'.elim
      | some fl0 =>
        rw [hf, if_neg (by simp)] at q'
        obtain ⟨Ca, Cb', e1, e2, e3⟩ := cs.exm C fl0 C0 hf har
        obtain ⟨Ca2, k1, k2, k3⟩ := xr
        rw [← cs.cx.hmg, e1] at k1
        cases k1
        subst k2
        rw [hCb.1] at e2
        cases e2
        refine ⟨isExc C C0, e3, fun hb a ha => ?_, fun hb => ?_⟩
        · rw [hb, if_pos rfl] at q'
          refine ⟨C, fl0, Ca, hf, e1, rfl, ia1, setSl w1 i (.val (.exc C fs)), ?_, ?_⟩
          · refine ((f1.wx (x := (a, C, dd)) hx0).setS (i := i) (s := .val (.exc C fs)) (o := some (.ref a)) rfl fun d' e' => ?_).1
            cases e'
            refine ⟨_, rfl, ?_⟩
            unfold Rep
            refine ⟨a, dd, rfl, rfl, ?_⟩
            cases dd with
            | none => exact k3
            | some dx =>
              obtain ⟨fv, z1, z2, z3⟩ := k3
              exact ⟨fv, z1, z2, RepFs.px (p := F.p) (p' := (F.wx (a, C, some dx)).p) rfl rfl _ _ (.inl hx0) z3⟩
          · revert q'
            cases evS fl c s2 (setSl w1 i (.val (.exc C fs))) with
            | ok g w2 =>
              cases g with
              | ret d fr =>
                intro q' v σ2 ia2 H2 f2 r2 _
                dsimp only at q'
                by_cases hn : (noX d && noXs w2.cs) = true
                · rw [if_pos hn] at q'
                  obtain ⟨n1, n2⟩ := Bool.and_eq_true_iff.mp hn
                  obtain ⟨f3, s3⟩ := f2.unwx n2
                  have r3 : Rep F.p ia2 (Mu F ia2 w2 σ2) H2 d v := Rep.px (p := (F.wx (a, C, dd)).p) (p' := F.p) rfl rfl d v (.inr n1) r2
                  exact q' v σ2 ia2 H2 f3 (Pers.sub s3 _ _ r3) fun z => by cases z
                · rw [if_neg hn] at q'
                  exact q'.elim
              | _ => exact fun q' => q'.elim
            | _ => exact fun q' => q'.elim
        · rw [hb, if_neg Bool.false_ne_true] at q'
          exact q' (.ref Ca) dd σ1 ia1 H1 f1 p1 ⟨Ca, by rw [← cs.cx.hmg]; exact e1, rfl, k3⟩
end
end RX

/-! F20: every checked statement is sound. -/
namespace RX
open PySem PySem.Spec PyProof.Rows
open L2 (Hp V HO VK XK WX upd Cx OpR R2 PE PT PA TE TA TT Gl Vis Inv EP PW CallR IxR Ends TS PS PSs Loc PG PGs TG TGs PSet TSet PI TI It)
def isNm : E → Bool
  | .nm _ => true
  | _ => false
mutual
def chkS (fl : Flds) (ar : String → Nat → Bool) (cm : Bool) (sc : Scope) (N : List Str) : S → Stmt → Bool
  | .asg i m, st => (match gAsg st with
    | some (x, _, e, _) => stB sc N i x && (!isComp e && chk ar cm sc N .val m e)
    | none => false)
  | .own i m, st => (match gAsg st with
    | some (x, _, e, _) => stB sc N i x && (!isComp e && chk ar cm sc N .val m e)
    | none => false)
  | .new i m, st => (match gAsg st with
    | some (x, _, e, _) => stB sc N i x && (!isComp e && chk ar cm sc N .val m e)
    | none => false)
  | .asgT is m, st => (match gAsgT st with
    | some (ts, k, p, e, _) => cm && (tgB sc N is (.Tuple ts k p) && (!isComp e && ((dTup e).isNone && chk ar cm sc N .val m e)))
    | none => false)
  | .par i j a b, st => (match gPar st with
    | some (x, px, y, py, _, _, l, r, _, _, _) => cm && (parB sc N i j x y px py l r && (chk ar cm sc N .val a l && chk ar cm sc N .val b r))
    | none => false)
  | .setIx i k m, st => (match gSet st with
    | some (x, _, ke, _, e, _) => slotB sc N i x && (!isComp e && (head ke && (chk ar cm sc N .val m e && chk ar cm sc N .val k ke)))
    | none => false)
  | .app i m, st => (match gApp st with
    | some (x, _, n, p1, e, p2, _) => slotB sc N i x && (decide (n = Str.ofString "append") && (head e && (decide (p1.endLine = p2.line) && chk ar cm sc N .val m e)))
    | none => false)
  | .expr m, st => (match gExpr st with
    | some (e, _) => !isComp e && chk ar cm sc N .val m e
    | none => false)
  | .ite m a b, st => (match gIf st with
    | some (t, p, q, _) => chk ar cm sc N .tst m t && (chkSs fl ar cm sc N a p && chkSs fl ar cm sc N b q)
    | none => false)
  | .whl m a, st => (match gWhl st with
    | some (t, p, _) => chk ar cm sc N .tst m t && chkSs fl ar cm sc N a p
    | none => false)
  | .for_ is it a, st => (match gFor st with
    | some (tg, e, p, _) => cm && (tgB sc N is tg && (chkI ar cm sc N it e && chkSs fl ar cm sc N a p))
    | none => false)
  | .ret m, st => (match gRet st with
    | some (e, _) => chk ar cm sc N .val m e
    | none => false)
  | .retN, st => (gRetN st).isSome
  | .rais C as, st => (match gRais st with
    | some (x, _, es, _, _) => cm && (gnB sc C x && ((match fl C with
      | some fs => decide (es.length = fs.length)
      | none => false) && chkL ar cm sc N .val as es))
    | none => false)
  | .try_ b C i s, st => (match gTry st with
    | some (bd, x, _, n, s0, ss, _, _) => cm && (gnB sc C x && (ar C 999 && (decide (N[i]? = some n) && (decide (sc.names.lookup n = some .local) && (chkSs fl (arL ar) true sc N b bd && chkSs fl (arL ar) false sc N s (s0 :: ss))))))
    | none => false)
  | .brk, st => (gBrk st).isSome
  | .cnt, st => (gCnt st).isSome
  | .pass, st => (gPass st).isSome
  | .nope, _ => true
  | _, _ => false
def chkSs (fl : Flds) (ar : String → Nat → Bool) (cm : Bool) (sc : Scope) (N : List Str) : S → List Stmt → Bool
  | .nil, sts => sts.isEmpty
  | .cons a b, sts => (match sts with
    | st :: r => chkS fl ar cm sc N a st && chkSs fl ar cm sc N b r
    | [] => false)
  | .nope, _ => true
  | _, _ => false
end
structure ResS (fl : Flds) (F : Sf) (Wx : WX) (c : Ct) (sc : Scope) (N : List Str) (ar : String → Nat → Bool) (cm : Bool) (X : Cx) (m : S) : Prop where
  one : ∀ st, chkS fl ar cm sc N m st = true → PS X st (tS fl F Wx c m)
  all : ∀ sts, chkSs fl ar cm sc N m sts = true → PSs X sts (tS fl F Wx c m)
theorem ResS.mk1 {fl : Flds} {F : Sf} {Wx : WX} {c : Ct} {sc : Scope} {N : List Str} {ar : String → Nat → Bool} {cm : Bool} {X : Cx} {m : S} (h : ∀ st, chkS fl ar cm sc N m st = true → PS X st (tS fl F Wx c m)) (h2 : ∀ sts, chkSs fl ar cm sc N m sts = true → False) : ResS fl F Wx c sc N ar cm X m := ⟨h, fun sts k => (h2 sts k).elim⟩
theorem sound_S : ∀ (m : S) {fl : Flds} {F : Sf} {Wx : WX} {c : Ct} {sc : Scope} {N : List Str} {ar : String → Nat → Bool} {cm : Bool} {X : Cx}, CxS fl F Wx c sc N ar cm X → ResS fl F Wx c sc N ar cm X m := by
  intro m
  induction m with
  | asg i m =>
    intro fl F Wx c sc N ar cm X cs
    refine ResS.mk1 (fun st h => ?_) fun sts h => by unfold chkSs at h; cases h
    unfold chkS at h
    cases hd : gAsg st with
    | none => rw [hd] at h; cases h
    | some z =>
      obtain ⟨x, p, e, q, rfl, rfl⟩ := gAsg_ok hd
      rw [hd] at h
      simp only [Bool.and_eq_true, Bool.not_eq_true'] at h
      obtain ⟨h1, h2, h3⟩ := h
      exact st_asg cs h1 h2 ((sound_E m cs.cx).val e h3)
  | own i m =>
    intro fl F Wx c sc N ar cm X cs
    refine ResS.mk1 (fun st h => ?_) fun sts h => by unfold chkSs at h; cases h
    unfold chkS at h
    cases hd : gAsg st with
    | none => rw [hd] at h; cases h
    | some z =>
      obtain ⟨x, p, e, q, rfl, rfl⟩ := gAsg_ok hd
      rw [hd] at h
      simp only [Bool.and_eq_true, Bool.not_eq_true'] at h
      obtain ⟨h1, h2, h3⟩ := h
      exact st_own cs h1 h2 (sound_F cs.cx m e h3)
  | new i m =>
    intro fl F Wx c sc N ar cm X cs
    refine ResS.mk1 (fun st h => ?_) fun sts h => by unfold chkSs at h; cases h
    unfold chkS at h
    cases hd : gAsg st with
    | none => rw [hd] at h; cases h
    | some z =>
      obtain ⟨x, p, e, q, rfl, rfl⟩ := gAsg_ok hd
      rw [hd] at h
      simp only [Bool.and_eq_true, Bool.not_eq_true'] at h
      obtain ⟨h1, h2, h3⟩ := h
      exact st_new cs h1 h2 (sound_F cs.cx m e h3)
  | asgT is m =>
    intro fl F Wx c sc N ar cm X cs
    refine ResS.mk1 (fun st h => ?_) fun sts h => by unfold chkSs at h; cases h
    unfold chkS at h
    cases hd : gAsgT st with
    | none => rw [hd] at h; cases h
    | some z =>
      obtain ⟨ts, k, p, e, q, rfl, rfl⟩ := gAsgT_ok hd
      rw [hd] at h
      simp only [Bool.and_eq_true, Bool.not_eq_true', Option.isNone_iff_eq_none] at h
      obtain ⟨h0, h1, h2, h3, h4⟩ := h
      exact st_asgT cs h0 h1 rfl h2 h3 ((sound_E m cs.cx).val e h4)
  | par i j a b =>
    intro fl F Wx c sc N ar cm X cs
    refine ResS.mk1 (fun st h => ?_) fun sts h => by unfold chkSs at h; cases h
    unfold chkS at h
    cases hd : gPar st with
    | none => rw [hd] at h; cases h
    | some z =>
      obtain ⟨x, px, y, py, kt, pt, l, r, k2, p2, q, rfl, rfl⟩ := gPar_ok hd
      rw [hd] at h
      simp only [Bool.and_eq_true] at h
      obtain ⟨h0, h1, h2, h3⟩ := h
      exact st_par cs h0 h1 ((sound_E a cs.cx).val _ h2) ((sound_E b cs.cx).val _ h3)
  | setIx i k m =>
    intro fl F Wx c sc N ar cm X cs
    refine ResS.mk1 (fun st h => ?_) fun sts h => by unfold chkSs at h; cases h
    unfold chkS at h
    cases hd : gSet st with
    | none => rw [hd] at h; cases h
    | some z =>
      obtain ⟨x, p, ke, p1, e, q, rfl, rfl⟩ := gSet_ok hd
      rw [hd] at h
      simp only [Bool.and_eq_true, Bool.not_eq_true'] at h
      obtain ⟨h0, h1, h2, h3, h4⟩ := h
      exact st_setIx cs h0 h1 ((sound_E m cs.cx).val _ h3) ((sound_E k cs.cx).val _ h4) h2
  | swap i k1 k2 e1 e2 =>
    intro fl F Wx c sc N ar cm X cs
    exact ResS.mk1 (fun st h => by unfold chkS at h; cases h) fun sts h => by unfold chkSs at h; cases h
  | app i m =>
    intro fl F Wx c sc N ar cm X cs
    refine ResS.mk1 (fun st h => ?_) fun sts h => by unfold chkSs at h; cases h
    unfold chkS at h
    cases hd : gApp st with
    | none => rw [hd] at h; cases h
    | some z =>
      obtain ⟨x, p, n, p1, e, p2, q, rfl, rfl⟩ := gApp_ok hd
      rw [hd] at h
      simp only [Bool.and_eq_true, decide_eq_true_eq] at h
      obtain ⟨h0, rfl, h2, h3, h4⟩ := h
      exact st_app cs h0 ((sound_E m cs.cx).val _ h4) h2 h3
  | expr m =>
    intro fl F Wx c sc N ar cm X cs
    refine ResS.mk1 (fun st h => ?_) fun sts h => by unfold chkSs at h; cases h
    unfold chkS at h
    cases hd : gExpr st with
    | none => rw [hd] at h; cases h
    | some z =>
      obtain ⟨e, q, rfl, rfl⟩ := gExpr_ok hd
      rw [hd] at h
      simp only [Bool.and_eq_true, Bool.not_eq_true'] at h
      exact st_expr cs h.1 ((sound_E m cs.cx).val _ h.2)
  | ite m a b iha ihb =>
    intro fl F Wx c sc N ar cm X cs
    refine ResS.mk1 (fun st h => ?_) fun sts h => by unfold chkSs at h; cases h
    unfold chkS at h
    cases hd : gIf st with
    | none => rw [hd] at h; cases h
    | some z =>
      obtain ⟨t, p, q, pos, rfl, rfl⟩ := gIf_ok hd
      rw [hd] at h
      simp only [Bool.and_eq_true] at h
      obtain ⟨h0, h1, h2⟩ := h
      exact st_ite cs ((sound_E m cs.cx).tst _ h0) ((iha cs).all _ h1) ((ihb cs).all _ h2)
  | whl m a iha =>
    intro fl F Wx c sc N ar cm X cs
    refine ResS.mk1 (fun st h => ?_) fun sts h => by unfold chkSs at h; cases h
    unfold chkS at h
    cases hd : gWhl st with
    | none => rw [hd] at h; cases h
    | some z =>
      obtain ⟨t, p, pos, rfl, rfl⟩ := gWhl_ok hd
      rw [hd] at h
      simp only [Bool.and_eq_true] at h
      exact st_whl cs ((sound_E m cs.cx).tst _ h.1) ((iha cs).all _ h.2)
  | for_ is it a iha =>
    intro fl F Wx c sc N ar cm X cs
    refine ResS.mk1 (fun st h => ?_) fun sts h => by unfold chkSs at h; cases h
    unfold chkS at h
    cases hd : gFor st with
    | none => rw [hd] at h; cases h
    | some z =>
      obtain ⟨tg, e, p, pos, rfl, rfl⟩ := gFor_ok hd
      rw [hd] at h
      simp only [Bool.and_eq_true] at h
      obtain ⟨h0, h1, h2, h3⟩ := h
      exact st_for cs h0 h1 h2 ((iha cs).all _ h3)
  | ret m =>
    intro fl F Wx c sc N ar cm X cs
    refine ResS.mk1 (fun st h => ?_) fun sts h => by unfold chkSs at h; cases h
    unfold chkS at h
    cases hd : gRet st with
    | none => rw [hd] at h; cases h
    | some z =>
      obtain ⟨e, q, rfl, rfl⟩ := gRet_ok hd
      rw [hd] at h
      have sf := sound_F cs.cx m e h
      cases m with
      | nm i =>
        unfold chk at h
        dsimp only at h
        cases hn : dName e with
        | none => rw [hn] at h; cases h
        | some z =>
          obtain ⟨x, p, rfl, rfl⟩ := dName_ok hn
          rw [hn] at h
          exact st_retNm cs h
      | _ => exact st_ret cs sf fun i z => by cases z
  | retN =>
    intro fl F Wx c sc N ar cm X cs
    refine ResS.mk1 (fun st h => ?_) fun sts h => by unfold chkSs at h; cases h
    unfold chkS at h
    obtain ⟨z, hz⟩ := Option.isSome_iff_exists.mp h
    obtain ⟨q, _, rfl⟩ := gRetN_ok hz
    exact st_retN
  | rais C as =>
    intro fl F Wx c sc N ar cm X cs
    refine ResS.mk1 (fun st h => ?_) fun sts h => by unfold chkSs at h; cases h
    unfold chkS at h
    cases hd : gRais st with
    | none => rw [hd] at h; cases h
    | some z =>
      obtain ⟨x, p, es, p1, q, rfl, rfl⟩ := gRais_ok hd
      rw [hd] at h
      simp only [Bool.and_eq_true] at h
      obtain ⟨h0, h1, h2, h3⟩ := h
      cases hf : fl C with
      | none => rw [hf] at h2; cases h2
      | some fs =>
        rw [hf] at h2
        obtain ⟨g1, g2, g3⟩ := chkL_len h3
        exact st_rais cs h0 h1 hf (of_decide_eq_true h2) g2 g3 ((sound_E as cs.cx).lst _ h3)
  | try_ b C i s ihb ihs =>
    intro fl F Wx c sc N ar cm X cs
    refine ResS.mk1 (fun st h => ?_) fun sts h => by unfold chkSs at h; cases h
    unfold chkS at h
    cases hd : gTry st with
    | none => rw [hd] at h; cases h
    | some z =>
      obtain ⟨bd, x, p, n, s0, ss, p1, q, rfl, rfl⟩ := gTry_ok hd
      rw [hd] at h
      simp only [Bool.and_eq_true, decide_eq_true_eq] at h
      obtain ⟨h0, h1, h2, h3, h4, h5, h6⟩ := h
      exact st_try cs h0 h1 h2 h3 h4 (fun cs' => (ihb cs').all _ h5) fun cs' => (ihs cs').all _ h6
  | brk =>
    intro fl F Wx c sc N ar cm X cs
    refine ResS.mk1 (fun st h => ?_) fun sts h => by unfold chkSs at h; cases h
    unfold chkS at h
    obtain ⟨z, hz⟩ := Option.isSome_iff_exists.mp h
    obtain ⟨q, _, rfl⟩ := gBrk_ok hz
    exact st_brk
  | cnt =>
    intro fl F Wx c sc N ar cm X cs
    refine ResS.mk1 (fun st h => ?_) fun sts h => by unfold chkSs at h; cases h
    unfold chkS at h
    obtain ⟨z, hz⟩ := Option.isSome_iff_exists.mp h
    obtain ⟨q, _, rfl⟩ := gCnt_ok hz
    exact st_cnt
  | pass =>
    intro fl F Wx c sc N ar cm X cs
    refine ResS.mk1 (fun st h => ?_) fun sts h => by unfold chkSs at h; cases h
    unfold chkS at h
    obtain ⟨z, hz⟩ := Option.isSome_iff_exists.mp h
    obtain ⟨q, _, rfl⟩ := gPass_ok hz
    exact st_pass
  | nil =>
    intro fl F Wx c sc N ar cm X cs
    refine ⟨(fun st h => by unfold chkS at h; cases h), fun sts h => ?_⟩
    unfold chkSs at h
    rw [List.isEmpty_iff.mp h]
    exact ss_nil
  | cons a b iha ihb =>
    intro fl F Wx c sc N ar cm X cs
    refine ⟨(fun st h => by unfold chkS at h; cases h), fun sts h => ?_⟩
    unfold chkSs at h
    cases sts with
    | nil => cases h
    | cons st r =>
      obtain ⟨h1, h2⟩ := Bool.and_eq_true_iff.mp h
      exact ss_cons ((iha cs).one _ h1) ((ihb cs).all _ h2)
  | nope =>
    intro fl F Wx c sc N ar cm X cs
    exact ⟨fun st _ => ps_never, fun sts _ => ⟨fun _ _ _ _ _ _ q => by obtain ⟨_, _, _, q⟩ := q; exact q.elim⟩⟩
end RX

/-! F21: a def's entry and end. -/
namespace RX
open PySem PySem.Spec PyProof.Rows
open L2 (Hp V HO VK XK WX upd Cx Ends TS PS PSs)
section
variable {p : Pm} {ia ib : List Addr} {O : Addr → Prop} {H : Hp}
mutual
theorem Rep.nr : ∀ (d : D) (v : V), noRef d = true → Rep p ia O H d v → Rep p ib O H d v
  | .non, _, _, h => h
  | .bl _, _, _, h => h
  | .int _, _, _, h => h
  | .str _, _, _, h => h
  | .tup ds, v, k, h => by
    unfold Rep at h ⊢
    obtain ⟨a, vs, e, q, r⟩ := h
    exact ⟨a, vs, e, q, Reps.nr ds vs (by unfold noRef at k; exact k) r⟩
  | .lst ds, v, k, h => by
    unfold Rep at h ⊢
    obtain ⟨a, vs, e, q, n, r⟩ := h
    exact ⟨a, vs, e, q, n, Reps.nr ds vs (by unfold noRef at k; exact k) r⟩
  | .frz ds, v, k, h => by unfold noRef at k; cases k
  | .dic kvs, v, k, h => by unfold noRef at k; cases k
  | .obj C fs, v, k, h => by unfold noRef at k; cases k
  | .ref i, v, k, h => by unfold noRef at k; cases k
  | .fn f, v, k, h => by unfold noRef at k; cases k
  | .exc C fs, v, k, h => by unfold noRef at k; cases k
theorem Reps.nr : ∀ (ds : List D) (vs : List V), noRefs ds = true → Reps p ia O H ds vs → Reps p ib O H ds vs
  | [], _, _, h => by
    unfold Reps at h ⊢
    exact h
  | d :: ds, vs, k, h => by
    unfold Reps at h ⊢
    obtain ⟨v, r, e, h1, h2⟩ := h
    unfold noRefs at k
    obtain ⟨k1, k2⟩ := Bool.and_eq_true_iff.mp k
    exact ⟨v, r, e, Rep.nr d v k1 h1, Reps.nr ds r k2 h2⟩
end
theorem Cell.nr {d : D} {a : Addr} (k : noRef d = true) (h : Cell p ia O H d a) : Cell p ib O H d a := by
  cases d with
  | lst ds =>
    obtain ⟨vs, e, r⟩ := h
    exact ⟨vs, e, Reps.nr ds vs (by unfold noRef at k; exact k) r⟩
  | dic ds => unfold noRef at k; cases k
  | _ => exact h.elim
theorem noRef_mem : ∀ {ds : List D} {i : Nat} {d : D}, noRefs ds = true → ds[i]? = some d → noRef d = true
  | [], _, _, _, h => by simp at h
  | x :: r, 0, d, k, h => by
    simp at h
    subst h
    unfold noRefs at k
    exact (Bool.and_eq_true_iff.mp k).1
  | x :: r, i + 1, d, k, h => by
    unfold noRefs at k
    exact noRef_mem (Bool.and_eq_true_iff.mp k).2 (by simpa using h)
theorem scalar_rep {d : D} {v : V} (h : scalar d = true) (r : Rep p ia O H d v) : ∀ {ia' O' H'}, Rep p ia' O' H' d v := fun {ia' O' H'} => by
  cases d with
  | non => unfold Rep at r ⊢; exact r
  | bl _ => unfold Rep at r ⊢; exact r
  | int _ => unfold Rep at r ⊢; exact r
  | str _ => unfold Rep at r ⊢; exact r
  | _ => cases h
end
/-- a def's frame at its entry -/
def entF (p : Pm) (T : List (Addr × Str)) (H : Hp) (O : Addr → Prop) (ia : List Addr) (n : Nat) : Sf := ⟨p, T, H, O, ia, n⟩
section
variable {p : Pm} {T : List (Addr × Str)} {H : Hp} {O : Addr → Prop} {ia : List Addr} {n : Nat} {cs : List D}
theorem mu_ent {w : W} {σ : L2.St} (ho : ∀ a ∈ ia, O a) (no : ∀ (i : Nat) (d : D), ¬ isOwn (w.sl[i]?) d) : Mu (entF p T H O ia n) ia w σ = O := funext fun b => propext ⟨fun z => by
  rcases z with z | z | ⟨i, d, z, _⟩
  · exact z
  · exact ho b z
  · exact (no i d z).elim, fun z => .inl z⟩
theorem sl_at {ds : List D} {m i : Nat} {s : Sl} (h : (ds.map Sl.val ++ List.replicate m .no)[i]? = some s) : s = .no ∨ ∃ d, ds[i]? = some d ∧ s = .val d := by
  by_cases hi : i < ds.length
  · rw [List.getElem?_append_left (by simpa using hi), List.getElem?_map] at h
    obtain ⟨d, e, q⟩ := Option.map_eq_some_iff.mp h
    exact .inr ⟨d, e, q.symm⟩
  · rw [List.getElem?_append_right (by simpa using Nat.le_of_not_lt hi)] at h
    exact .inl (by
      have := List.mem_of_getElem? h
      exact List.eq_of_mem_replicate this)
theorem fr_ent {ds : List D} {vs : List V} (N : List Str) (ho : ∀ a ∈ ia, O a) (hH : ∀ a, O a → ¬ Nt H a) (ht : LamX.Tabs T H) (ck : CellsOk p ia O H cs) (rp : Reps p ia O H ds vs) (hn : ds.length ≤ N.length) :
    Fr (entF p T H O ia N.length) ia ⟨ds.map Sl.val ++ List.replicate (N.length - ds.length) .no, cs⟩ (L2.start N vs) H := by
  have no : ∀ (i : Nat) (d : D), ¬ isOwn ((ds.map Sl.val ++ List.replicate (N.length - ds.length) Sl.no)[i]?) d := fun i d z => by
    rcases z with z | z
    · rcases sl_at z with q | ⟨_, _, q⟩ <;> cases q
    · rcases sl_at z with q | ⟨_, _, q⟩ <;> cases q
  have mu : Mu (entF p T H O ia N.length) ia ⟨ds.map Sl.val ++ List.replicate (N.length - ds.length) .no, cs⟩ (L2.start N vs) = O := mu_ent ho no
  have lv := rp.length
  refine ⟨Le.refl, ht, ho, hH, fun _ _ h => h, fun a h => .inl h, ck.2.1, ck.1, fun i a d h1 h2 => by rw [mu]; exact ck.2.2 i a d h1 h2, fun i d h => ?_, fun i d h => (no i d h).elim, fun i j a d e h => (no i d h).elim, ?_, ?_⟩
  · rw [mu]
    rcases sl_at h with q | ⟨d', e, q⟩
    · cases q
    · cases q
      obtain ⟨v, h1, h2⟩ := rp.get e
      refine ⟨v, ?_, h2⟩
      unfold L2.start
      rw [List.getElem?_append_left (by rw [List.length_map]; exact (List.getElem?_eq_some_iff.mp h1).1), List.getElem?_map, h1]
      rfl
  · unfold L2.start
    simp [lv]
  · unfold L2.start entF
    simp [lv]
    omega
/-- the frame's end -/
theorem end_cells {ia' : List Addr} {w' : W} {σ' : L2.St} {H' : Hp} (f : Fr (entF p T H O ia n) ia' w' σ' H') (hl : w'.cs.length = ia.length) : ia' = ia ∧ On ia ia (Mu (entF p T H O ia n) ia' w' σ') O H' H' := by
  have e : ia' = ia := by
    apply List.ext_getElem?
    intro i
    by_cases hi : i < ia.length
    · rw [List.getElem?_eq_getElem hi]
      exact f.pre i _ (List.getElem?_eq_getElem hi)
    · rw [List.getElem?_eq_none (show ia'.length ≤ i by rw [f.ilen, hl]; omega), List.getElem?_eq_none (Nat.le_of_not_lt hi)]
  exact ⟨e, Le.refl, fun b hb => .inl (f.io b hb), fun b hb => .inl (.inl hb), fun _ _ h => h⟩
theorem post_ent {fl : Flds} {c : Ct} {body : S} {ds : List D} {vs : List V} {N : List Str} {Q : VK} {E : XK} (ho : ∀ a ∈ ia, O a) (hH : ∀ a, O a → ¬ Nt H a) (ht : LamX.Tabs T H) (ck : CellsOk p ia O H cs) (rp : Reps p ia O H ds vs) (hn : ds.length ≤ N.length)
    (h : PostC p T ia O H (ends cs.length (evS fl c body ⟨ds.map Sl.val ++ List.replicate (N.length - ds.length) .no, cs⟩)) Q E) :
    tS fl (entF p T H O ia N.length) (fun cls d _ H' => E cls d H') c body { nx := fun _ H' => Q .non H', rt := Q } (L2.start N vs) H := by
  have lc : ia.length = cs.length := ck.1
  refine ⟨ia, _, fr_ent N ho hH ht ck rp hn, ?_⟩
  -- the value d comes out
  have out : ∀ {d : D} {fr : Bool} {v : V} {ia' : List Addr} {w' : W} {σ' : L2.St} {H' : Hp}, PostC p T ia O H (fin cs.length d fr w'.cs) Q E → Fr (entF p T H O ia N.length) ia' w' σ' H' → Rep p ia' (Mu (entF p T H O ia N.length) ia' w' σ') H' d v →
      (fr = true → isSeq d = true → ∃ a, v = .ref a ∧ FrA (entF p T H O ia N.length) ia' w' σ' H' a ∧ Cell p ia' (fun z => Mu (entF p T H O ia N.length) ia' w' σ' z ∨ z = a) H' d a) → Q v H' := fun {d fr v ia' w' σ' H'} hp f r nw => by
    unfold fin at hp
    split at hp
    · rename_i hl
      obtain ⟨e, on⟩ := end_cells f (by rw [hl, lc])
      subst e
      refine hp v H' f.le f.tabs ⟨f.ilen, f.ind, fun i a d h1 h2 => (f.cells i a d h1 h2).on on fun _ q => q⟩ (Rep.on on d v r) fun h1 h2 => ?_
      obtain ⟨a, ea, fa, ca⟩ := nw h1 h2
      have on2 : On ia' ia' (fun z => Mu (entF p T H O ia' N.length) ia' w' σ' z ∨ z = a) (fun b => O b ∨ b = a) H' H' := ⟨Le.refl, fun b hb => .inl (.inl (f.io b hb)), fun b hb => .inl (hb.elim (fun z => .inl (.inl z)) .inr), fun _ _ h => h⟩
      exact ⟨a, ea, fa.nH0, ca.on on2 fun _ q => q, f.ilen, f.ind, fun i b e h1 h2 => (fa.cells i b e h1 h2).on on2 fun _ q => q⟩
    · split at hp
      · rename_i hl hs
        obtain ⟨h1, h2⟩ := Bool.and_eq_true_iff.mp hs
        have ll : cs.length ≤ w'.cs.length := by
          rw [← f.ilen, ← lc]
          refine Nat.le_of_not_lt fun z => ?_
          have := f.pre ia'.length _ (List.getElem?_eq_getElem z)
          rw [List.getElem?_eq_none (Nat.le_refl _)] at this
          cases this
        have sub : On ia ia (Mu (entF p T H O ia N.length) ia' w' σ') O H' H' := ⟨Le.refl, fun b hb => .inl (f.io b hb), fun b hb => .inl (.inl hb), fun _ _ h => h⟩
        refine hp v H' f.le f.tabs ⟨by rw [List.length_take, lc]; omega, ck.2.1, fun i a e g1 g2 => ?_⟩ (scalar_rep h1 r) fun z => by cases z
        have hi : i < cs.length := by rw [← lc]; exact (List.getElem?_eq_some_iff.mp g1).1
        have g3 : w'.cs[i]? = some e := by
          rw [List.getElem?_take_of_lt hi] at g2
          exact g2
        have c1 : Cell p ia' (Mu (entF p T H O ia N.length) ia' w' σ') H' e a := f.cells i a e (f.pre i a g1) g3
        have c2 : Cell p ia (Mu (entF p T H O ia N.length) ia' w' σ') H' e a := Cell.nr (noRef_mem h2 g2) c1
        exact c2.on sub fun _ q => q
      · exact hp.elim
  revert h
  cases evS fl c body ⟨ds.map Sl.val ++ List.replicate (N.length - ds.length) .no, cs⟩ with
  | ok g w' =>
    cases g with
    | next => exact fun h σ' ia' H' f _ => out (v := .non) h f (by unfold Rep; rfl) fun z => by cases z
    | ret d fr => exact fun h v σ' ia' H' f r nw => out h f r nw
    | brk => exact fun h => h.elim
    | cnt => exact fun h => h.elim
  | ex C fs w' =>
    intro h cls dd σ' ia' H' f _ xr
    have h' : PostC p T ia O H (if w'.cs.length = cs.length then .ex C fs w'.cs else .bad) Q E := h
    by_cases hl : w'.cs.length = cs.length
    · rw [if_pos hl] at h'
      obtain ⟨e, on⟩ := end_cells f (by rw [hl, lc])
      subst e
      refine h' cls dd H' f.le f.tabs ⟨f.ilen, f.ind, fun i a d h1 h2 => (f.cells i a d h1 h2).on on fun _ q => q⟩ ?_
      obtain ⟨Ca, k1, k2, k3⟩ := xr
      refine ⟨Ca, k1, k2, ?_⟩
      cases dd with
      | none => exact k3
      | some dx =>
        obtain ⟨fv, z1, z2, z3⟩ := k3
        exact ⟨fv, z1, fun z => z2 (.inl z), RepFs.on on _ _ z3⟩
    · rw [if_neg hl] at h'
      exact h'.elim
  | bad => exact fun h => h.elim
end
end RX

/-! F22: a def that asks a lambda. -/
namespace RX
open PySem PySem.Spec PyProof.Rows
open L2 (Hp V HO VK XK WX upd Cx PE PT PA TE TA TT Gl Vis Inv EP Ends TS PS PSs cxOf)
/-- try: return (tag, a()) / except e as n: s0 ss -/
def dAsk : List Stmt → Option (Str × Str × Str × Str × Stmt × List Stmt)
  | [.Try [.Return (some (.Tuple [.Constant (.str tag) _ _, .Call (.Name a _) [] [] _] _ _)) _] [.ExceptHandler (some (.Name e _)) (some n) (s0 :: ss) _] [] [] _] => some (tag, a, e, n, s0, ss)
  | _ => none
theorem dAsk_ok {b : List Stmt} {z : Str × Str × Str × Str × Stmt × List Stmt} (h : dAsk b = some z) : ∃ tag a e n s0 ss j p0 p1 p2 kt pt p3 p4 p7 p8, z = (tag, a, e, n, s0, ss) ∧
    b = [.Try [.Return (some (.Tuple [.Constant (.str tag) j p0, .Call (.Name a p1) [] [] p2] kt pt)) p3] [.ExceptHandler (some (.Name e p4)) (some n) (s0 :: ss) p7] [] [] p8] := by
  unfold dAsk at h
  split at h
  · cases h
    exact ⟨_, _, _, _, _, _, _, _, _, _, _, _, _, _, _, _, rfl, rfl⟩
  · cases h
/-- what it makes of the lambda -/
def askTT (p : Pm) (T : List (Addr × Str)) (fl : Flds) (ad : Ad) : (XK → Hp → VK → Prop) → Hp → VK → Prop := fun tl H Q => ∃ r cs ia O, (∀ a ∈ ia, O a) ∧ (∀ a, O a → ¬ Nt H a) ∧ LamX.Tabs T H ∧ CellsOk p ia O H cs ∧
  (∀ E Q', PostC p T ia O H r Q' E → tl E H Q') ∧ PostC p T ia O H (askR fl ad r) Q (fun _ _ _ => False)
theorem takes_len {X : Cx} {W : WX} (tk : L2.Takes X W) : L2.Takes X (fun cls d σ H => σ.length = X.N.length → W cls d σ H) := fun u s' ⟨a, B, sI, pins, σ, H, cls, d, e, I, nb, up, sky, na, os, ag, w⟩ =>
  tk u s' ⟨a, B, sI, pins, σ, H, cls, d, e, I, nb, up, sky, na, os, ag, w I.len⟩
section
variable {fl : Flds} {ar : String → Nat → Bool} {X : Cx} {p : Pm} {T : List (Addr × Str)} {ad : Ad}
theorem ask_gives {N : List Str} {x a e n q tag : Str} {sg : Scope} {g : Addr} {cdg : Value} {s0 : Stmt} {ss : List Stmt} {j kt : Nat} {p0 p1 p2 pt p3 p4 p7 p8 : Pos} (st : Stc fl ar X.K X.mg) (hK : X.K = p.K) (hmg : X.mg = p.mg) (hx0 : p.x0 = none) (nd : N.Nodup) (hr1 : L2.Room 1 X.A)
    (htag : strOf ad.tag = tag) (hN : ad.ns = N.length) (h0 : 0 < N.length) (hi : N[ad.i]? = some n) (hln : sg.names.lookup n = some .local) (he : gnB sg ad.C0 e = true) (har : ar ad.C0 999 = true) (hs : chkSs fl (arL ar) false sg N ad.s (s0 :: ss) = true) :
    LamX.GivesTo X N x sg g cdg [.Try [.Return (some (.Tuple [.Constant (.str tag) j p0, .Call (.Name a p1) [] [] p2] kt pt)) p3] [.ExceptHandler (some (.Name e p4)) (some n) (s0 :: ss) p7] [] [] p8] a q (askTT p T fl ad) := by
  intro f c' s H Q tl act hc h
  obtain ⟨r, cs, ia, O, io, oH, hT, ck, htl, hr⟩ := h
  obtain ⟨ee, g1, g2, g3⟩ := gn_ok he
  obtain ⟨Cb, hCb, _⟩ := st.kcl ad.C0 har
  generalize hZ : cxOf C8.CX0 X.prog X.w X.K X.mg X.base N x sg g cdg X.A X.stack s H C8.E0 = Z at act ⊢
  have zK : Z.K = X.K := by rw [← hZ]; rfl
  have zmg : Z.mg = X.mg := by rw [← hZ]; rfl
  have zsc : Z.env.scope = sg := by rw [← hZ]; rfl
  have zN : Z.N = N := by rw [← hZ]; rfl
  have zfn : ∀ x, Z.fn x = true := by rw [← hZ]; exact fun _ => rfl
  have zst : Z.stack = Z.env :: Z.outer := by rw [← hZ]; rfl
  have zfr : Z.env.frame = some Z.env.locals := by rw [← hZ]; rfl
  have zun : Z.A.units + 64 < cLine := by
    rw [← hZ]
    exact (hr1.deeper _).units
  let ts : Addr → Value → Option Addr → TS := fun a cls d D σ H => ∃ (C : String) (fs : List String) (Ca : Addr) (F : Sf), fl C = some fs ∧ X.mg (Str.ofString C) = some (.ref Ca) ∧ cls = .ref Ca ∧ F.p = p ∧ F.n = N.length ∧ tS fl (F.wx (a, C, d)) (fun _ _ _ _ => False) badCt ad.s D σ H
  have nm : L2.Names Z.nox e (.ref Cb) := ⟨by
    show Z.env.scope.names.lookup e = _
    rw [zsc]
    exact g1, g2, .inl (by
    show Z.mg e = _
    rw [zmg, ee]
    exact hCb)⟩
  have nd' : Z.nox.N.Nodup := by
    show Z.N.Nodup
    rw [zN]
    exact nd
  have hi' : Z.nox.N[ad.i]? = some n := by
    show Z.N[ad.i]? = _
    rw [zN]
    exact hi
  have hl' : Z.nox.env.kindOf n = some .local := by
    show Z.env.scope.names.lookup n = _
    rw [zsc]
    exact hln
  refine ⟨_, L2.pss_one (L2.ps_try_as (X := Z.nox) (c := .ref Cb) (i := ad.i) (ts := ts) (Wout := fun _ _ _ _ => False)
      (tb := fun W D σ H => ∃ Ech : XK, (∀ cls d σ' H', Ech cls d H' → σ'.length = N.length → W cls d σ' H') ∧ σ[0]? = some (some (.ref f)) ∧ H c' = some (LamX.CodeO c' q) ∧ tl Ech H (fun v H1 => ∀ t, H1 t = none → D.rt (.ref t) (upd H1 t (.tup [.str tag, v]))))
      zst zfr nd' hi' hl' nm LamX.takes0 (fun W pn xe tk _ => ?_) (fun a oe cls d pn hz hv => ?_)), ?_⟩
  · refine ⟨fun pins s' σ H' D I h' => ?_⟩
    obtain ⟨Ech, hW, h1, h2, h3⟩ := h'
    have tk' : L2.Takes (Z.tr pn xe) (fun cls d σ H => σ.length = Z.N.length → W cls d σ H) := takes_len (X := Z.tr pn xe) tk
    have hp := act _ pn xe Ech p1 p2 tk' (fun cls d σ' H' k hl => hW cls d σ' H' k (by rw [hl, zN]))
    have pa := L2.pa_cons (X := Z.tr pn xe) (L2.pe_str (x := tag) (j := j) (pos := p0)) (L2.pa_cons hp L2.pa_nil rfl) rfl
    have hq := L2.pss_one (L2.ps_ret (pos := p3) (L2.pe_tup (pos := pt) (x1 := kt) pa))
    refine hq.run pins s' σ H' D I ?_
    exact ⟨h1, h2, by
      have e2 : (fun (v : V) H1 => ([V.str tag, v] : List V).length ≤ sizeLine ∧ ∀ t, H1 t = none → D.rt (.ref t) (upd H1 t (.tup [.str tag, v]))) = fun v H1 => ∀ t, H1 t = none → D.rt (.ref t) (upd H1 t (.tup [.str tag, v])) := by
        funext v H1
        exact propext ⟨fun z => z.2, fun z => ⟨by show 2 ≤ sizeLine; decide, z⟩⟩
      show tl Ech H' (fun v H1 => ([V.str tag, v] : List V).length ≤ sizeLine ∧ ∀ t, H1 t = none → D.rt (.ref t) (upd H1 t (.tup [.str tag, v])))
      rw [e2]
      exact h3⟩
  · refine ⟨fun pins s' σ H' D I h' => ?_⟩
    obtain ⟨C, fs, Ca, F, k1, k2, k3, k4, k5, k6⟩ := h'
    subst k3
    have cs := Stc.suite (fl := fl) (ar := ar) (F := F) (c := badCt) (sc := sg) (N := N) (X := Z.nox) (by
      show Stc fl ar Z.K Z.mg
      rw [zK, zmg]
      exact st) (by rw [k4, ← hK]; exact zK) (by rw [k4, ← hmg]; exact zmg) zsc zN k5 nd zun zfn zst zfr (a := a) (pn := pn) k1 (by show Z.mg _ = _; rw [zmg]; exact k2) hz hv
    exact ((sound_S ad.s cs).all _ hs).run pins s' σ H' D I k6
  · refine ⟨fun cls d H' => ∀ σ', σ'.length = N.length → L2.wAs X.K (.ref Cb) ad.i ts (fun _ _ _ _ => False) { nx := fun _ H' => Q .non H', rt := Q } cls d σ' H', fun cls d σ' H' k hl => ?_, ?_, hc, htl _ _ ?_⟩
    · have := k σ' hl
      show L2.wAs Z.K _ _ _ _ _ _ _ _ _
      rw [zK]
      exact this
    · unfold L2.start
      rfl
    · revert hr
      cases r with
      | ok d fr cs' =>
        intro hr v H' l t ck' rp _ tp htp
        have hr' : PostC p T ia O H (.ok (.tup [.str ad.tag, d]) false cs') Q (fun _ _ _ => False) := hr
        have l2 : Le ia H' (upd H' tp (.tup [.str tag, v])) := Le.alloc htp
        have on : On ia ia O O H' (upd H' tp (.tup [.str tag, v])) := ⟨l2, io, fun b hb => .inl hb, fun _ _ h => h⟩
        refine hr' _ _ (l.trans l2) (t.ext fun b u e => (L2.upd_ne (L2.ne_of_none e htp)).trans e) ⟨ck'.1, ck'.2.1, fun i a d h1 h2 => (ck'.2.2 i a d h1 h2).on on fun u e => (L2.upd_ne (L2.ne_of_none e htp)).trans e⟩ ?_ fun z => by cases z
        unfold Rep
        refine ⟨tp, _, rfl, .inl (.inl L2.upd_same), ?_⟩
        unfold Reps
        refine ⟨_, _, rfl, by unfold Rep; rw [htag], ?_⟩
        unfold Reps
        exact ⟨v, [], rfl, Rep.on on d v rp, by unfold Reps; rfl⟩
      | bad => exact fun hr => hr.elim
      | ex C fs cs' =>
        intro hr cls dd H' l t ck' xr σ' hσ
        have hr' : PostC p T ia O H (if (fl C).isNone then .bad else if isExc C ad.C0 then (match evS fl badCt ad.s ⟨(List.replicate ad.ns .no).set ad.i (.val (.exc C fs)), cs'⟩ with
          | .ok (.ret d _) w => if noX d && (noXs w.cs && decide (w.cs.length = cs'.length)) then .ok d false w.cs else .bad
          | _ => .bad) else .bad) Q (fun _ _ _ => False) := hr
        cases hf : fl C with
        | none =>
          rw [hf] at hr'
          exact hr'.elim
        | some fl0 =>
          rw [hf, if_neg (by simp)] at hr'
          obtain ⟨Ca, Cb', e1, e2, e3⟩ := st.exm C fl0 ad.C0 hf har
          obtain ⟨Ca2, k1, k2, k3⟩ := xr
          rw [← hmg, e1] at k1
          cases k1
          subst k2
          rw [hCb] at e2
          cases e2
          refine ⟨isExc C ad.C0, e3, fun hb a ha => ?_, fun hb => ?_⟩
          · rw [hb, if_pos rfl] at hr'
            let F : Sf := ⟨p, T, H', O, ia, N.length⟩
            have no : ∀ (i : Nat) (d : D), ¬ isOwn ((List.replicate ad.ns Sl.no)[i]?) d := fun i d z => by
              rcases z with z | z
              · cases List.eq_of_mem_replicate (List.mem_of_getElem? z)
              · cases List.eq_of_mem_replicate (List.mem_of_getElem? z)
            have mu0 : Mu F ia ⟨List.replicate ad.ns .no, cs'⟩ σ' = O := mu_ent io no
            have oH' : ∀ a, O a → ¬ Nt H' a := fun a h z => oH a h (l.dom a z)
            have f0 : Fr F ia ⟨List.replicate ad.ns .no, cs'⟩ σ' H' := ⟨Le.refl, t, io, oH', fun _ _ h => h, fun a h => .inl h, ck'.2.1, ck'.1, fun i a d h1 h2 => by rw [mu0]; exact ck'.2.2 i a d h1 h2, fun i d z => (by
              cases List.eq_of_mem_replicate (List.mem_of_getElem? z)), fun i d z => (no i d z).elim, fun i j a d e z => (no i d z).elim, by simp [hN, hσ], hσ⟩
            refine ⟨C, fl0, Ca, F, hf, e1, rfl, rfl, rfl, ia, setSl ⟨List.replicate ad.ns .no, cs'⟩ ad.i (.val (.exc C fs)), ?_, ?_⟩
            · refine ((f0.wx (x := (a, C, dd)) hx0).setS (i := ad.i) (s := .val (.exc C fs)) (o := some (.ref a)) rfl fun d' e' => ?_).1
              cases e'
              refine ⟨_, rfl, ?_⟩
              unfold Rep
              refine ⟨a, dd, rfl, rfl, ?_⟩
              have muw : Mu (F.wx (a, C, dd)) ia ⟨List.replicate ad.ns .no, cs'⟩ σ' = O := mu0
              cases dd with
              | none => exact k3
              | some dx =>
                obtain ⟨fv, z1, z2, z3⟩ := k3
                exact ⟨fv, z1, by rw [muw]; exact z2, by rw [muw]; exact RepFs.px (p := p) (p' := (F.wx (a, C, some dx)).p) rfl rfl _ _ (.inl hx0) z3⟩
            · revert hr'
              show PostC p T ia O H (match evS fl badCt ad.s (setSl ⟨List.replicate ad.ns .no, cs'⟩ ad.i (.val (.exc C fs))) with
                | .ok (.ret d _) w => if noX d && (noXs w.cs && decide (w.cs.length = cs'.length)) then .ok d false w.cs else .bad
                | _ => .bad) Q (fun _ _ _ => False) → _
              cases evS fl badCt ad.s (setSl ⟨List.replicate ad.ns .no, cs'⟩ ad.i (.val (.exc C fs))) with
              | ok gg w2 =>
                cases gg with
                | ret d fr =>
                  intro hr' v σ2 ia2 H2 f2 r2 _
                  dsimp only at hr'
                  by_cases hn : (noX d && (noXs w2.cs && decide (w2.cs.length = cs'.length))) = true
                  · rw [if_pos hn] at hr'
                    obtain ⟨n1, n2⟩ := Bool.and_eq_true_iff.mp hn
                    obtain ⟨n2, n3⟩ := Bool.and_eq_true_iff.mp n2
                    have n3 := of_decide_eq_true n3
                    obtain ⟨f3, s3⟩ := f2.unwx (F := F) n2
                    have f3' : Fr (entF p T H' O ia N.length) ia2 ⟨w2.sl.map fun _ => .no, w2.cs⟩ σ2 H2 := f3
                    obtain ⟨ei, on⟩ := end_cells f3' (by show w2.cs.length = _; rw [n3, ck'.1])
                    subst ei
                    have r3 : Rep p ia2 (Mu F ia2 w2 σ2) H2 d v := Rep.px (p := (F.wx (a, C, dd)).p) (p' := p) rfl rfl d v (.inr n1) r2
                    have r4 : Rep p ia2 (Mu F ia2 ⟨w2.sl.map fun _ => .no, w2.cs⟩ σ2) H2 d v := Pers.sub (F := F) (w := w2) s3 d v r3
                    exact hr' v H2 (l.trans f3.le) f3.tabs ⟨f3.ilen, f3.ind, fun i a d h1 h2 => (f3.cells i a d h1 h2).on on fun _ q => q⟩ (Rep.on on d v r4) fun z => by cases z
                  · rw [if_neg hn] at hr'
                    exact hr'.elim
                | _ => exact fun hr' => hr'.elim
              | _ => exact fun hr' => hr'.elim
          · rw [hb, if_neg Bool.false_ne_true] at hr'
            exact hr'.elim
end
end RX

/-! F23: own error classes are raised. -/
namespace RX
open PySem PySem.Spec PyProof.Rows
open L2 (Hp V HO VK XK WX upd Cx PE PT PA TE TA TT Gl Vis Inv EP Ends TS PS PSs cxOf)
theorem upd_upd {H : Hp} {a : Addr} {o u : HO} : upd (upd H a o) a u = upd H a u := by
  funext b
  by_cases h : b = a
  · subst h
    rw [L2.upd_same, L2.upd_same]
  · rw [L2.upd_ne h, L2.upd_ne h, L2.upd_ne h]
theorem upd_eq {H : Hp} {a : Addr} {o : HO} (h : H a = some o) : upd H a o = H := by
  funext b
  by_cases hb : b = a
  · subst hb
    rw [L2.upd_same, h]
  · rw [L2.upd_ne hb]
/-- self.f = f, one behind another; slot i for the first -/
def dOst : Stmt → Option (Str × Str × Str)
  | .Assign [.Attribute (.Name s _) f _] (.Name x _) _ => some (s, f, x)
  | _ => none
theorem dOst_ok {st : Stmt} {z : Str × Str × Str} (h : dOst st = some z) : ∃ s p f p1 x p2 q, z = (s, f, x) ∧ st = .Assign [.Attribute (.Name s p) f p1] (.Name x p2) q := by
  unfold dOst at h
  split at h
  · cases h
    exact ⟨_, _, _, _, _, _, _, rfl, rfl⟩
  · cases h
def chkInit (sc : Scope) (N : List Str) : Nat → List String → List Stmt → Bool
  | _, [], b => b.isEmpty
  | i, f :: fs, b => (match b with
    | st :: r => (match dOst st with
      | some (s, g, x) => slotB sc N 0 s && (decide (g = Str.ofString f) && (slotB sc N i x && chkInit sc N (i + 1) fs r))
      | none => false)
    | [] => false)
/-- the slots from i on hold vs -/
def Hold (σ : L2.St) : Nat → List V → Prop
  | _, [] => True
  | i, v :: vs => σ[i]? = some (some v) ∧ Hold σ (i + 1) vs
section
variable {X : Cx} {sc : Scope} {N : List Str}
theorem pe_slotX (hN : X.N = N) (hsc : X.env.scope = sc) {i : Nat} {x : Str} {pos : Pos} (h : slotB sc N i x = true) : PE X (.Name x pos) (L2.tVar i) := by
  unfold slotB at h
  simp only [Bool.and_eq_true, decide_eq_true_eq] at h
  obtain ⟨h1, h2, h3⟩ := h
  unfold okN at h3
  simp only [Bool.and_eq_true, Bool.not_eq_true'] at h3
  exact L2.pe_var (i := i) (by rw [hN]; exact h1) (by rw [hsc]; exact visB_ok h2) h3.1.1 h3.1.2
theorem init_old (hN : X.N = N) (hsc : X.env.scope = sc) : ∀ (fs : List String) (i : Nat) (b : List Stmt), chkInit sc N i fs b = true →
    PSs X b (fun D σ H => ∃ a C dx fs0 vs, σ[0]? = some (some (V.ref a)) ∧ L2.OexC X.K C ∧ (∀ f ∈ fs, PySem.W.findIn X.K (.ref C) (Str.ofString f) = some none) ∧ fs0.length + fs.length ≤ 900 ∧ vs.length = fs.length ∧ Hold σ i vs ∧ H a = some (L2.exo a C (some dx)) ∧ H dx = some (L2.exd dx fs0) ∧ a ≠ dx ∧
      D.nx σ (upd H dx (L2.exd dx (((fs.map Str.ofString).zip vs).reverse ++ fs0))))
  | [], i, b, h => by
    unfold chkInit at h
    rw [List.isEmpty_iff.mp h]
    refine pss_weak L2.pss_nil fun D σ H ⟨a, C, dx, fs0, vs, h1, h2, h3, h4, h5, h6, h7, h8, nd, h9⟩ => ?_
    rw [upd_eq (by simpa using h8)] at h9
    exact h9
  | f :: fs, i, b, h => by
    unfold chkInit at h
    cases b with
    | nil => cases h
    | cons st r =>
      dsimp only at h
      cases hd : dOst st with
      | none =>
        rw [hd] at h
        cases h
      | some z =>
        obtain ⟨s, p, g, p1, x, p2, q, rfl, rfl⟩ := dOst_ok hd
        rw [hd] at h
        simp only [Bool.and_eq_true, decide_eq_true_eq] at h
        obtain ⟨k1, rfl, k2, k3⟩ := h
        refine pss_weak (L2.pss_cons (L2.ps_ost (pe_slotX hN hsc k1) (pe_slotX hN hsc k2) rfl) (init_old hN hsc fs (i + 1) r k3)) fun D σ H ⟨a, C, dx, fs0, vs, h1, h2, h3, h4, h5, h6, h7, h8, nd, h9⟩ => ?_
        cases vs with
        | nil => cases h5
        | cons v vs =>
          refine ⟨v, h6.1, .ref a, h1, a, C, rfl, h2, h3 f List.mem_cons_self, .inr ⟨dx, fs0, h7, h8, ?_, ?_⟩⟩
          · simp at h4
            omega
          · refine ⟨a, C, dx, (Str.ofString f, v) :: fs0, vs, h1, h2, fun g hg => h3 g (List.mem_cons_of_mem _ hg), ?_, Nat.succ.inj h5, h6.2, ?_, L2.upd_same, nd, ?_⟩
            · simp at h4 ⊢
              omega
            · rw [L2.upd_ne nd]
              exact h7
            · rw [upd_upd]
              simpa using h9
/-- what __init__ makes of the new error at a -/
def spI (C : Addr) (fs : List String) : L2.Sp := fun vs H Q E => vs.length = fs.length + 1 ∧ ∃ a ws, vs = .ref a :: ws ∧ H a = some (L2.exo a C none) ∧ ∀ dx, H dx = none → dx ≠ a → Q .non (upd (upd H dx (L2.exd dx ((fs.map Str.ofString).zip ws).reverse)) a (L2.exo a C (some dx)))
theorem init_new (hN : X.N = N) (hsc : X.env.scope = sc) {C : Addr} {f : String} {fs : List String} {b : List Stmt} (T : L2.OexC X.K C) (nf : ∀ g ∈ f :: fs, PySem.W.findIn X.K (.ref C) (Str.ofString g) = some none) (hl : fs.length ≤ 800) (h : chkInit sc N 1 (f :: fs) b = true) :
    PSs X b (fun D σ H => ∃ a vs, σ[0]? = some (some (V.ref a)) ∧ vs.length = (f :: fs).length ∧ Hold σ 1 vs ∧ H a = some (L2.exo a C none) ∧ ∀ dx, H dx = none → dx ≠ a → D.nx σ (upd (upd H dx (L2.exd dx (((f :: fs).map Str.ofString).zip vs).reverse)) a (L2.exo a C (some dx)))) := by
  unfold chkInit at h
  cases b with
  | nil => cases h
  | cons st r =>
    dsimp only at h
    cases hd : dOst st with
    | none =>
      rw [hd] at h
      cases h
    | some z =>
      obtain ⟨s, p, g, p1, x, p2, q, rfl, rfl⟩ := dOst_ok hd
      rw [hd] at h
      simp only [Bool.and_eq_true, decide_eq_true_eq] at h
      obtain ⟨k1, rfl, k2, k3⟩ := h
      refine pss_weak (L2.pss_cons (L2.ps_ost (pe_slotX hN hsc k1) (pe_slotX hN hsc k2) rfl) (init_old hN hsc fs 2 r k3)) fun D σ H ⟨a, vs, h1, h5, h6, h7, h9⟩ => ?_
      cases vs with
      | nil => cases h5
      | cons v vs =>
        refine ⟨v, h6.1, .ref a, h1, a, C, rfl, T, nf f List.mem_cons_self, .inl ⟨h7, fun dx hdx hne => ?_⟩⟩
        refine ⟨a, C, dx, [(Str.ofString f, v)], vs, h1, T, fun g hg => nf g (List.mem_cons_of_mem _ hg), ?_, Nat.succ.inj h5, h6.2, L2.upd_same, ?_, Ne.symm hne, ?_⟩
        · simp
          omega
        · rw [L2.upd_ne hne, L2.upd_same]
        · have e : upd (upd (upd H dx (L2.exd dx [(Str.ofString f, v)])) a (L2.exo a C (some dx))) dx (L2.exd dx (((fs.map Str.ofString).zip vs).reverse ++ [(Str.ofString f, v)])) = upd (upd H dx (L2.exd dx ((((f :: fs).map Str.ofString).zip (v :: vs)).reverse))) a (L2.exo a C (some dx)) := by
            funext b
            by_cases hb : b = dx
            · subst hb
              rw [L2.upd_same, L2.upd_ne hne, L2.upd_same]
              simp
            · rw [L2.upd_ne hb]
              by_cases hb2 : b = a
              · subst hb2
                rw [L2.upd_same, L2.upd_same]
              · rw [L2.upd_ne hb2, L2.upd_ne hb2, L2.upd_ne hb, L2.upd_ne hb]
          rw [e]
          exact h9 dx hdx hne
theorem hold_start {N : List Str} : ∀ {vs : List V} {i : Nat} {us : List V}, us.drop i = vs → Hold (L2.start N us) i vs
  | [], _, _, _ => trivial
  | v :: vs, i, us, h => by
    have hi : i < us.length := by
      refine Nat.lt_of_not_le fun z => ?_
      rw [List.drop_eq_nil_of_le z] at h
      cases h
    rw [List.drop_eq_getElem_cons hi] at h
    injection h with h1 h2
    refine ⟨?_, hold_start h2⟩
    unfold L2.start
    rw [List.getElem?_append_left (by simpa using hi), List.getElem?_map, List.getElem?_eq_getElem hi, h1]
    rfl
/-- __init__ keeps its promise -/
theorem init_fn {P : Program} {w : World} {K : PySem.W.Frag} {mg : Str → Option Value} {base : Heap} {CX : L2.CXT} {x qual : Str} {params : Arguments} {body : List Stmt} {scope : Scope} {dvs : List V} {kws : List (Str × V)} {fI C : Addr} {fd : FuncData} {f : String} {fs : List String} {ps : List Str}
    (FD : L2.FunD K x qual params body scope dvs kws fI fd) (S : L2.FnScope N ps scope) (hps : ps.length = fs.length + 2) (T : L2.OexC K C) (nf : ∀ g ∈ f :: fs, PySem.W.findIn K (.ref C) (Str.ofString g) = some none) (hl : fs.length ≤ 800) (h : chkInit scope N 1 (f :: fs) body = true) :
    L2.FnOk P w K mg base CX 1 fI fd ps (spI C (f :: fs)) := by
  refine L2.FunD.ok FD S (fun vs H Q E hq => by rw [hq.1, hps]; rfl) fun cdv A outer s H vs Q E hr hq => ?_
  obtain ⟨hv, a, ws, rfl, h1, h2⟩ := hq
  refine ⟨_, init_new (X := cxOf CX P w K mg base N qual scope fI cdv A outer s H E) (N := N) rfl rfl T nf hl h, a, ws, ?_, ?_, hold_start rfl, h1, h2⟩
  · unfold L2.start
    rfl
  · simpa using hv
theorem pa_mono {es : List Expr} {ta : TA} (h : PA X es ta) : PA X es (fun σ H K => ∃ K', ta σ H K' ∧ ∀ vs H1, K' vs H1 → K vs H1) := ⟨fun pos pins s σ H Q I ⟨K', h1, h2⟩ =>
  L2.thn (h.run pos pins s σ H K' I h1) fun us s1 ⟨vs, H1, I1, r1, q1⟩ => ⟨vs, H1, I1, r1, h2 vs H1 q1⟩⟩
/-- raise C(e, ..) -/
theorem raise_oex {CX : L2.CXT} {C : String} {Ca fI : Addr} {fd : FuncData} {ps : List Str} {f : String} {fs : List String} (T : L2.OexC X.K Ca) (iC : PySem.W.findIn X.K (.ref Ca) "__init__" = some (some (.ref fI))) (tI : PySem.W.typeIn X.K (.ref fI) = some (.type "function"))
    (FN : L2.FnOk X.prog X.w X.K X.mg X.base C8.CX0 1 fI fd ps (spI Ca (f :: fs))) (hr : L2.Room 2 X.A) (hb : L2.Binds X.K fd ps []) (hm : X.mg (Str.ofString C) = some (.ref Ca)) (hl : fs.length ≤ 800) : RaiseR X C (f :: fs) := by
  refine ⟨Ca, hm, fun x p pos ex hg hdb => ⟨(fun z => by cases z), fun _ es ta hlen hh ha => ?_⟩⟩
  cases es with
  | nil => cases hlen
  | cons e es =>
    have hp := L2.pmk_oex (CX := C8.CX0) (dvs := []) (p := p) (pos := pos) T iC tI FN hr hb .nil C8.pass0 hg (by rw [ex]; exact hm) (pa_mono ha) hdb (star_head (hh e List.mem_cons_self)) (by
      have : ∀ l : List Expr, (∀ e ∈ l, head e = true) → (backTo pos (starEach l X.env)).any (·.1) = false := fun l => by
        induction l with
        | nil => intro _; rfl
        | cons y ys ih =>
          intro hy
          rw [star_head (hy y List.mem_cons_self)]
          exact ih fun z hz => hy z (List.mem_cons_of_mem _ hz)
      exact this es fun z hz => hh z (List.mem_cons_of_mem _ hz))
    intro pins s σ H Q I h
    refine hp pins s σ H Q I ⟨_, h, fun vs H1 ⟨hv, hq⟩ => ⟨by rw [hv]; simp; omega, fun a ha1 => ⟨by simp [hv], a, vs ++ [], rfl, L2.upd_same, fun dx hdx hne => ⟨rfl, dx, ((((f :: fs).map Str.ofString).zip vs)).reverse, L2.upd_same, ?_, ?_, ?_⟩⟩⟩⟩
    · rw [L2.upd_ne hne, L2.upd_same, List.append_nil]
    · rw [L2.upd_ne hne] at hdx
      exact hdx
    · rw [L2.upd_ne hne] at hdx
      have e : upd (L2.del (upd (upd (upd H1 a (L2.exo a Ca none)) dx (L2.exd dx ((((f :: fs).map Str.ofString).zip (vs ++ [])).reverse))) a (L2.exo a Ca (some dx))) a) dx (.xd ((((f :: fs).map Str.ofString).zip vs)).reverse) = upd H1 dx (.xd ((((f :: fs).map Str.ofString).zip vs)).reverse) := by
        funext b
        by_cases hb : b = dx
        · subst hb
          rw [L2.upd_same, L2.upd_same]
        · rw [L2.upd_ne hb, L2.upd_ne hb]
          by_cases hb2 : b = a
          · subst hb2
            rw [L2.del_same, ha1]
          · rw [L2.del_ne hb2, L2.upd_ne hb2, L2.upd_ne hb, L2.upd_ne hb2]
      rw [e]
      exact hq dx hdx
/-- raise C() -/
theorem raise_own0 {C : String} {Ca : Addr} (q : PySem.W.excIn X.K Ca He.veBase "ValueError.__new__" = true) (kC : PySem.W.keepIn X.K (.ref Ca) = true) (r : L2.Raises X (.ref Ca)) (hm : X.mg (Str.ofString C) = some (.ref Ca)) : RaiseR X C [] := by
  refine ⟨Ca, hm, fun x p pos ex hg hdb => ⟨fun _ => ?_, fun z => absurd rfl z⟩⟩
  intro pins s σ H Q I h
  refine wpAny_Call_Name_kw (L2.ld_glob I hg (by rw [ex]; exact hm) ?_ hdb)
  refine PySem.W.callWith_K0 I.kIn kC ?_
  obtain ⟨bm, N, nm, qn, bs, hdct, sn, sub, ab, col, dd, k0, k1, k2, k3, k5, mN, hC, hN, hni, T⟩ := L2.exc_obj I.kIn q
  exact wpAny_call_exc_subT PySem.F.excBase_ValueError T hC hN hni (fun h' e hm => L2.mk_of I hm r h (I.hok.gone hm.new)) (Nat.zero_le _)
end
end RX

/-! F24: every def keeps what the evaluator says, level by level. -/
namespace RX
open PySem PySem.Spec PyProof.Rows
open L2 (Hp V HO VK XK WX upd Cx PE PT PA TE TA TT Gl Vis Inv EP Ends TS PS PSs cxOf)
/-- a def as the head left it -/
structure DI where
  a : Addr
  fd : FuncData
  x : Str
  qual : Str
  params : Arguments
  body : List Stmt
  scope : Scope
  dvs : List V
  N : List Str
  ps : List Str
  lam : Bool
def arD (ar : String → Nat → Bool) (lam : Bool) : String → Nat → Bool := fun f n => if n = 997 then lam else ar f n
/-- the name of a lambda of the def q -/
abbrev lamQ (q : Str) : Str := (q ++ ".<locals>.") ++ "<lambda>"
/-- what is known of a text behind the head -/
structure TxOk (t : Tx) (I : String → Option DI) (P : Program) (w : World) (K : PySem.W.Frag) (mg : Str → Option Value) (base : Heap) (T : List (Addr × Str)) (p : Pm) (ar : String → Nat → Bool) : Prop where
  hK : K = p.K
  hmg : mg = p.mg
  x0 : p.x0 = none
  st : ∀ lam, Stc t.fl (arD ar lam) K mg
  defs : ∀ f d i, t.G f = some d → I f = some i → mg (Str.ofString f) = some (.ref i.a) ∧ L2.FunD K i.x i.qual i.params i.body i.scope i.dvs [] i.a i.fd ∧ L2.FnScope i.N i.ps i.scope ∧ i.ps.length = d.np ∧ d.ns = i.N.length ∧ d.np ≤ d.ns ∧
    chkSs t.fl (arD ar i.lam) true i.scope i.N d.body i.body = true ∧ (i.lam = true → ∃ c Pt, i.fd.code = .ref c ∧ LamX.TabB base mg c Pt ∧ (Pt, lamQ i.qual) ∈ T ∧ ∀ q ∈ T, q.1 = Pt → q.2 = lamQ i.qual)
  call : ∀ f n, n < 900 → ar f n = true → ∃ d i dvs dvals, t.G f = some d ∧ I f = some i ∧ n ≤ d.np ∧ d.np ≤ n + d.dfl.length ∧ L2.Binds K i.fd i.ps dvals ∧ L2.Vals dvs dvals ∧ ∀ ia O H, Reps p ia O H (d.dfl.drop (n + d.dfl.length - d.np)) dvs
  asks : ∀ f, ar f 996 = true → ∃ (ad : Ad) (g : Addr) (pg : Arguments) (bg : List Stmt) (sg : Scope) (dV kV doc pm cdv ct oc : Value) (an od : Option Addr) (osl : Array (Option Value)) (Ng : List Str) (a : Str), t.A f = some ad ∧ mg (Str.ofString f) = some (.ref g) ∧ PySem.W.keepIn K (.ref g) = true ∧
    K.lookup g = some ⟨oc, od, .func (PySem.W.fnOf (Str.ofString f) (Str.ofString f) pg bg sg dV kV doc pm an cdv ct), osl⟩ ∧ PySem.W.codeIn K cdv (Str.ofString f) = true ∧ L2.Binds K (PySem.W.fnOf (Str.ofString f) (Str.ofString f) pg bg sg dV kV doc pm an cdv ct) [a] [] ∧ L2.FnScope Ng [a] sg ∧ Ng[0]? = some a ∧ Vis sg a ∧
    (a == ("__debug__" : Str)) = false ∧ (a == ("__classdict__" : Str)) = false ∧ ∃ e n s0 ss tag, dAsk bg = some (tag, a, e, n, s0, ss) ∧ strOf ad.tag = tag ∧ ad.ns = Ng.length ∧ Ng[ad.i]? = some n ∧ sg.names.lookup n = some .local ∧ gnB sg ad.C0 e = true ∧ ar ad.C0 999 = true ∧ chkSs t.fl (arL (arD ar false)) false sg Ng ad.s (s0 :: ss) = true
  rs : ∀ C fs, t.fl C = some fs → ∀ X : Cx, X.prog = P → X.w = w → X.K = K → X.mg = mg → X.base = base → L2.Room 2 X.A → RaiseR X C fs
/-- what a def promises at level k -/
def spN (t : Tx) (p : Pm) (T : List (Addr × Str)) (k : Nat) (d : Df) : L2.Sp := fun vs H Q E => vs.length = d.np ∧ ∃ ds cs, ds.length = d.np ∧ PreC p T vs ds cs H (if k < 3 then .bad else runD t.fl (ctOf t (lev t (k - 1))) d ds cs) Q E
section
variable {t : Tx} {I : String → Option DI} {P : Program} {w : World} {K : PySem.W.Frag} {mg : Str → Option Value} {base : Heap} {T : List (Addr × Str)} {p : Pm} {ar : String → Nat → Bool}
def LevOk (t : Tx) (I : String → Option DI) (P : Program) (w : World) (K : PySem.W.Frag) (mg : Str → Option Value) (base : Heap) (T : List (Addr × Str)) (p : Pm) (k : Nat) : Prop := ∀ f d i, t.G f = some d → I f = some i → L2.FnOk P w K mg base (L2.CX P w) k i.a i.fd i.ps (spN t p T k d)
theorem arD_low {lam : Bool} {f : String} {n : Nat} (hn : n ≠ 997) (h : arD ar lam f n = true) : ar f n = true := by
  unfold arD at h
  rw [if_neg hn] at h
  exact h
theorem call_ok (tx : TxOk t I P w K mg base T p ar) {k : Nat} (lv : LevOk t I P w K mg base T p k) {X : Cx} (h1 : X.prog = P) (h2 : X.w = w) (h3 : X.K = K) (h4 : X.mg = mg) (h5 : X.base = base) (hr : L2.Room k X.A) {f : String} {n : Nat} (hn : n < 900) (har : ar f n = true) : CallOk X p T (fun ds cs => callN t k f ds cs) f n := by
  subst h1 h2 h3 h4 h5
  obtain ⟨d, i, dvs, dvals, hG, hI, k1, k2, hb, hv, hd⟩ := tx.call f n hn har
  obtain ⟨hm, FD, S, hp, hs, hps, hc, hlam⟩ := tx.defs f d i hG hI
  refine ⟨i.a, i.fd, i.ps, k, spN t p T k d, dvs, dvals, hm, FD.kp, hr, lv f d i hG hI, hb, hv, fun ds cs vs H Q E hl hp => ?_⟩
  obtain ⟨ia, O, io, oH, hT, ck, rp, po⟩ := hp
  have hdl : dvs.length = (d.dfl.drop (n + d.dfl.length - d.np)).length := Reps.length (hd ia O H)
  rw [List.length_drop] at hdl
  refine ⟨by rw [List.length_append, rp.length, hl, hdl]; omega, ds ++ d.dfl.drop (n + d.dfl.length - d.np), cs, by rw [List.length_append, List.length_drop, hl]; omega, ia, O, io, oH, hT, ck, Reps.append rp (hd ia O H), ?_⟩
  by_cases hk : k < 3
  · have po' : PostC p T ia O H (callN t k f ds cs) Q E := po
    rw [callN_low t k hk] at po'
    exact po'.elim
  · rw [if_neg hk]
    obtain ⟨j, rfl⟩ : ∃ j, k = j + 3 := ⟨k - 3, by omega⟩
    have po' : PostC p T ia O H (callN t (j + 3) f ds cs) Q E := po
    rw [callN_succ] at po'
    unfold stepF at po'
    rw [hG] at po'
    dsimp only at po'
    have hf : fillD d ds = some (ds ++ d.dfl.drop (n + d.dfl.length - d.np)) := by
      unfold fillD
      rw [hl, if_pos ⟨k1, k2⟩]
    rw [hf] at po'
    exact po'
theorem lam_args {ps : Arguments} (h : lamArgs ps = true) : ps = ⟨[], [], none, [], [], none, []⟩ := by
  obtain ⟨a, b, c, d, e, f, g⟩ := ps
  unfold lamArgs at h
  simp only [Bool.and_eq_true, List.isEmpty_iff, Option.isNone_iff_eq_none] at h
  obtain ⟨⟨⟨⟨⟨⟨rfl, rfl⟩, rfl⟩, rfl⟩, rfl⟩, rfl⟩, rfl⟩ := h
  rfl
/-- a def's context -/
theorem cx_of (tx : TxOk t I P w K mg base T p ar) {j : Nat} (lv : LevOk t I P w K mg base T p (j + 2)) (lv0 : LevOk t I P w K mg base T p j) {i : DI} {f : String} {d : Df} (hG : t.G f = some d) (hI : I f = some i) {A : Around} {outer : List Env} {s : Shared} {H : Hp} {E : XK} {F : Sf} {cdv : Value} (hcd : cdv = i.fd.code)
    (hr : L2.Room (j + 2) (A.deeper (envOfC i.qual i.scope s.heap.objs.size i.a cdv))) (fp : F.p = p) (fT : F.T = T) (fn : F.n = i.N.length) :
    CxS t.fl F (fun cls d _ H' => E cls d H') (ctOf t (lev t (j + 2))) i.scope i.N (arD ar i.lam) true (cxOf (L2.CX P w) P w K mg base i.N i.qual i.scope i.a cdv A outer s H E) := by
  obtain ⟨hm, FD, S, hp, hs, hps, hc, hlam⟩ := tx.defs f d i hG hI
  have st := tx.st i.lam
  have tk : L2.Takes (cxOf (L2.CX P w) P w K mg base i.N i.qual i.scope i.a cdv A outer s H E) (fun cls d _ H' => E cls d H') := L2.takes_of (X := cxOf (L2.CX P w) P w K mg base i.N i.qual i.scope i.a cdv A outer s H E) rfl rfl rfl rfl
  refine ⟨⟨by rw [fp]; exact tx.hK, by rw [fp]; exact tx.hmg, rfl, rfl, fn, S.nd, tk, hr.units, fun _ => rfl, st.blt, fun _ g n hn har => ?_, st.kcl, (fun a C dd h => by rw [fp, tx.x0] at h; cases h), (fun a C dd g h => by rw [fp, tx.x0] at h; cases h), fun _ g hg hl => ?_, fun _ => by rw [fp]; exact tx.x0, st.glo⟩,
    L2.passes_of (X := cxOf (L2.CX P w) P w K mg base i.N i.qual i.scope i.a cdv A outer s H E) rfl, fun _ => rfl, rfl, rfl, fun _ C fs hf pn xe => tx.rs C fs hf _ rfl rfl rfl rfl rfl (hr.mono (j := 2) (by omega)), fun _ => by rw [fp]; exact tx.x0, st.exm, st.nof, fun C fs h => by
      obtain ⟨Ca, h1, h2, h3⟩ := st.exc C fs h
      refine ⟨Ca, h1, h2, fun cn b h4 h5 => ?_⟩
      obtain ⟨v, cv, k1, k2, k3⟩ := h3 cn b h4 h5
      exact ⟨v, cv, Stc.cnV (X := cxOf (L2.CX P w) P w K mg base i.N i.qual i.scope i.a cdv A outer s H E) k1, k2, k3⟩⟩
  · rw [fp, fT]
    exact call_ok tx lv rfl rfl rfl rfl rfl hr hn (arD_low (by omega) har)
  · have hl' : i.lam = true := by
      unfold arD at hl
      rw [if_pos rfl] at hl
      exact hl
    obtain ⟨c, Pt, hc1, TB, hmT, hu⟩ := hlam hl'
    obtain ⟨ad, ga, pg, bg, sg, dV, kV, doc, pm, cdg, ct, oc, an, od, osl, Ng, a, hA, hmg, hk, lk, hcg, hb, Sg, hN0, hva, hd1, hd2, e, n, s0, ss, tag, q1, q2, q3, q4, q5, q6, q7, q8⟩ := tx.asks g (arD_low (by omega) hg)
    obtain ⟨tag', a', e', n', s0', ss', j', p0, p1, p2, kt, pt, p3, p4, p7, p8, ez, rfl⟩ := dAsk_ok q1
    cases ez
    have hlen : 0 < Ng.length := (List.getElem?_eq_some_iff.mp hN0).1
    have q7' : arD ar false ad.C0 999 = true := by
      unfold arD
      rw [if_neg (by decide)]
      exact q7
    refine ⟨askTT p T t.fl ad, fun ps bd ls q lpos pos tb la ls' hgl hdb hbody => ?_, fun tl th cs ia O H' Q io oH hT ck htl po => ?_⟩
    · have ea := lam_args la
      subst ea
      have GV := ask_gives (fl := t.fl) (ar := arD ar false) (X := cxOf (L2.CX P w) P w K mg base i.N i.qual i.scope i.a cdv A outer s H E) (p := p) (T := T) (ad := ad) (N := Ng) (x := Str.ofString g) (a := a) (e := e) (n := n) (q := lamQ i.qual) (tag := tag) (sg := sg) (g := ga) (cdg := cdg) (s0 := s0) (ss := ss) (j := j') (kt := kt) (p0 := p0) (p1 := p1) (p2 := p2) (pt := pt) (p3 := p3) (p4 := p4) (p7 := p7) (p8 := p8)
        (tx.st false) tx.hK tx.hmg tx.x0 Sg.nd (hr.mono (by omega)) q2 q3 hlen q4 q5 q6 q7' q8
      rw [fT]
      refine LamX.pe_lamcall (k := j) (X := cxOf (L2.CX P w) P w K mg base i.N i.qual i.scope i.a cdv A outer s H E) hgl hmg hk lk hcg hb Sg hN0 hva GV TB (by rw [← hc1]; exact hcd) hmT hu hr ls' rfl (fun q cl pm cv ctv => rfl) (fun A' outer' s' H' E' f' c' hr' => hbody A' outer' s' H' E' f' c' ⟨?_, hr'.units, fun g' n' hn' har' => ?_⟩) hdb hd1 hd2
      · exact L2.takes_of (X := LamX.lamCx (cxOf (L2.CX P w) P w K mg base i.N i.qual i.scope i.a cdv A outer s H E) A' outer' s' H' E' ls f' c') rfl rfl rfl rfl
      · rw [fp, fT]
        have har2 : ar g' n' = true := arD_low (by omega) (Bool.and_eq_true_iff.mp har').2
        exact call_ok tx lv0 (X := LamX.lamCx (cxOf (L2.CX P w) P w K mg base i.N i.qual i.scope i.a cdv A outer s H E) A' outer' s' H' E' ls f' c') rfl rfl rfl rfl rfl hr' hn' har2
    · rw [fp, fT] at *
      refine ⟨th cs, cs, ia, O, io, oH, hT, ck, htl, ?_⟩
      have po' : PostC p T ia O H' (askOf t.A t.fl g th cs) Q (fun _ _ _ => False) := po
      unfold askOf at po'
      rw [hA] at po'
      exact po'
theorem lev_ok (tx : TxOk t I P w K mg base T p ar) : ∀ k, LevOk t I P w K mg base T p k := fun k => by
  induction k using Nat.strongRecOn with
  | _ k ih =>
    intro f d i hG hI
    by_cases hk : k < 3
    · have no : ∀ vs H Q E, spN t p T k d vs H Q E → False := fun vs H Q E h => by
        obtain ⟨_, ds, cs, _, ia, O, _, _, _, _, _, po⟩ := h
        rw [if_pos hk] at po
        exact po
      exact ⟨fun vs H Q E h => (no vs H Q E h).elim, fun A outer s H args us vs Q E _ _ _ _ h => (no vs H Q E h).elim⟩
    · obtain ⟨j, rfl⟩ : ∃ j, k = j + 3 := ⟨k - 3, by omega⟩
      obtain ⟨hm, FD, S, hp, hs, hps, hc, hlam⟩ := tx.defs f d i hG hI
      obtain ⟨oc, od, dV, kV, doc, pm, an, cdv, ct, osl, hfd, lk, hcd, _, _⟩ := FD.ex
      have hcode : cdv = i.fd.code := by rw [hfd]
      have main := L2.fn_of (CX := L2.CX P w) (P := P) (w := w) (mg := mg) (base := base) (k := j + 2) (N := i.N) (ps := i.ps) (sp := spN t p T (j + 3) d) (by rw [← hfd]; exact lk) hcd S (fun vs H Q E h => by rw [h.1, hp]) fun A outer s H vs Q E hr h => ?_
      · rw [hfd]
        exact main
      · obtain ⟨hv, ds, cs, hds, ia, O, io, oH, hT, ck, rp, po⟩ := h
        rw [if_neg (by omega)] at po
        have cs' := cx_of tx (ih (j + 2) (by omega)) (ih j (by omega)) hG hI (F := entF p T H O ia i.N.length) (A := A) (outer := outer) (s := s) (H := H) (E := E) hcode hr rfl rfl rfl
        refine ⟨_, (sound_S d.body cs').all _ hc, ?_⟩
        refine post_ent io oH hT ck rp (by rw [hds, ← hs]; exact hps) ?_
        have po' : PostC p T ia O H (ends cs.length (evS t.fl (ctOf t (lev t (j + 2))) d.body ⟨ds.map Sl.val ++ List.replicate (d.ns - d.np) .no, cs⟩)) Q E := po
        rw [hs, ← hds] at po'
        exact po'
end
end RX

/-! F25: arguments are bound; facts of the head. -/
namespace RX
open PySem PySem.Spec PyProof.Rows
open L2 (Hp V HO VK XK WX upd Cx)
theorem look_zip {ps : List Str} : ∀ {us : List Value} {x : Str}, us.length = ps.length → x ∈ ps → ((ps.zip us).lookup x).isSome = true := by
  induction ps with
  | nil => intro us x _ h; cases h
  | cons q ps ih =>
    intro us x hl h
    cases us with
    | nil => cases hl
    | cons u us =>
      rw [List.zip_cons_cons, List.lookup_cons]
      cases hq : (x == q) with
      | true => rfl
      | false =>
        refine ih (Nat.succ.inj hl) ?_
        rcases List.mem_cons.mp h with e | e
        · rw [e, beq_self_eq_true] at hq
          cases hq
        · exact e
theorem zip_map {α β : Type} [BEq α] [LawfulBEq α] : ∀ {ps : List α} {us : List β}, ps.Nodup → us.length = ps.length → (ps.filterMap fun n => ((ps.zip us).lookup n).map (n, ·)) = ps.zip us
  | [], us, _, _ => rfl
  | q :: ps, [], _, hl => by cases hl
  | q :: ps, u :: us, hn, hl => by
    obtain ⟨h1, h2⟩ := List.nodup_cons.mp hn
    rw [List.zip_cons_cons, List.filterMap_cons, List.lookup_cons, beq_self_eq_true]
    have e : (ps.filterMap fun n => (((q, u) :: ps.zip us).lookup n).map (n, ·)) = ps.filterMap fun n => ((ps.zip us).lookup n).map (n, ·) := by
      have : ∀ l : List α, (∀ x ∈ l, x ≠ q) → (l.filterMap fun n => (((q, u) :: ps.zip us).lookup n).map (n, ·)) = l.filterMap fun n => ((ps.zip us).lookup n).map (n, ·) := fun l => by
        induction l with
        | nil => intro _; rfl
        | cons x l ih =>
          intro hx
          have e1 : (x == q) = false := beq_eq_false_iff_ne.mpr (hx x List.mem_cons_self)
          rw [List.filterMap_cons, List.filterMap_cons, List.lookup_cons, e1, ih fun y hy => hx y (List.mem_cons_of_mem _ hy)]
      exact this ps fun x hx z => h1 (z ▸ hx)
    show (q, u) :: _ = _
    rw [e, zip_map h2 (Nat.succ.inj hl)]
/-- every parameter is plain -/
def plainA (a : Arguments) : Bool := a.posonlyargs.isEmpty && (a.vararg.isNone && (a.kwonlyargs.isEmpty && (a.kw_defaults.isEmpty && a.kwarg.isNone)))
theorem plainA_ok {a : Arguments} (h : plainA a = true) : a.posonlyargs = [] ∧ a.vararg = none ∧ a.kwonlyargs = [] ∧ a.kwarg = none := by
  unfold plainA at h
  simp only [Bool.and_eq_true, List.isEmpty_iff, Option.isNone_iff_eq_none] at h
  exact ⟨h.1, h.2.1, h.2.2.1, h.2.2.2.2⟩
theorem bind_plain {fd : FuncData} {us : List Value} (h : plainA fd.params = true) (hd : fd.defaults = .none) (hn : (fd.params.args.map (·.arg)).Nodup) (hl : us.length = (fd.params.args.map (·.arg)).length) : bindArgs fd ⟨us, []⟩ = pure ((fd.params.args.map (·.arg)).zip us) := by
  obtain ⟨h1, h2, h3, h4⟩ := plainA_ok h
  simp only [bindArgs, h1, h2, h3, h4, hd, List.map_nil, List.nil_append, List.append_nil]
  generalize fd.params.args.map (·.arg) = ps at hn hl ⊢
  have e1 : seqItems? Value.none = pure none := rfl
  rw [e1]
  have e2 : ¬ (us.length > ps.length) := by omega
  have e3 : (ps.filter fun n => ((ps.zip us).lookup n).isNone) = [] := by
    rw [List.filter_eq_nil_iff]
    intro x hx
    have := look_zip hl hx
    cases hq : (ps.zip us).lookup x with
    | none =>
      rw [hq] at this
      cases this
    | some v => simp
  have e4 := zip_map (α := Str) hn hl
  simp [e2, e3, e4]
end RX

/-! F26: facts of the classes, looked up in what the head left. -/
namespace RX
open PySem PySem.Spec PyProof.Rows
open L2 (Hp V HO VK XK WX upd Cx)
open He (ga ma fAd ba eqO eqO_ok)
section
variable {K : PySem.W.Frag} {C : Addr}
def oexB (K : PySem.W.Frag) (C : Addr) : Bool := (match K.lookup C with
  | some ⟨.type "type", _, .cls cd, sl⟩ => (match cd.mro, sl.toList with
    | .ref C' :: bm, [_, _, _, _, some (.builtin n), _] => C' == C && (n == "ValueError.__new__" && (!cd.hasDel && (cd.hasDict && PySem.HandSPX.refsVE bm)))
    | _, _ => false)
  | _ => false) && (eqO (PySem.W.findIn K (.ref C) "__setattr__") (some (some (.builtin "object.__setattr__"))) && (decide (PySem.W.subIn K (.ref C) (.type "BaseException") = some true) && (decide (PySem.W.typeIn K (.ref C) = some (.type "type")) && PySem.W.keepIn K (.ref C))))
theorem oexB_ok (h : oexB K C = true) : L2.OexC K C := by
  unfold oexB at h
  obtain ⟨q, h⟩ := ba h
  obtain ⟨h1, h⟩ := ba h
  obtain ⟨h2, h⟩ := ba h
  obtain ⟨h3, h4⟩ := ba h
  refine ⟨?_, eqO_ok h1, of_decide_eq_true h2, of_decide_eq_true h3, h4⟩
  split at q
  · rename_i dd cd sl ho
    split at q
    · rename_i C' bm k0 k1 k2 k3 n k5 hm hs
      simp only [Bool.and_eq_true, beq_iff_eq, Bool.not_eq_true'] at q
      obtain ⟨rfl, rfl, hdel, hdct, hr⟩ := q
      obtain ⟨nm, bs, mro, ns, qn, hd, sn, sub, ab, col, del⟩ := cd
      dsimp only at hm hdel hdct
      subst hm hdel hdct
      have hsl : sl = #[k0, k1, k2, k3, some (.builtin "ValueError.__new__"), k5] := by
        obtain ⟨l⟩ := sl
        simp only at hs
        rw [hs]
      subst hsl
      exact ⟨nm, qn, ns, bs, bm, sn, sub, ab, col, dd, k0, k1, k2, k3, k5, ho, hr⟩
    · cases q
  · cases q
def excB (K : PySem.W.Frag) (C : Addr) : Bool :=
  eqO (PySem.W.findIn K (.ref C) "__getattribute__") (some (some (.builtin "BaseException.__getattribute__"))) && (eqO (PySem.W.findIn K (.ref C) "__getattr__") (some none) && (decide (PySem.W.subIn K (.ref C) (.type "BaseException") = some true) && (PySem.W.hasDictIn K C &&
    (eqO (PySem.W.findIn K (.ref C) "__class__") (some (some (.builtin "object.__class__"))) && (eqO (PySem.W.specialIn K (.builtin "object.__class__") "__get__") (some (some (.builtin "getset_descriptor.__get__"))) && (decide (PySem.W.takesIn K (.builtin "object.__class__") = some true) && decide (PySem.W.mroIn K C (.type "object") = some true)))))))
theorem excB_ok (h : excB K C = true) : L2.ExcC K C := by
  unfold excB at h
  obtain ⟨h1, h⟩ := ba h
  obtain ⟨h2, h⟩ := ba h
  obtain ⟨h3, h⟩ := ba h
  obtain ⟨h4, h⟩ := ba h
  obtain ⟨h5, h⟩ := ba h
  obtain ⟨h6, h⟩ := ba h
  obtain ⟨h7, h8⟩ := ba h
  exact ⟨eqO_ok h1, eqO_ok h2, of_decide_eq_true h3, h4, eqO_ok h5, eqO_ok h6, of_decide_eq_true h7, of_decide_eq_true h8⟩
end
/-- an error class: its name, its attributes -/
structure MC where
  name : String
  fs : List String
/-- a class, by its name -/
abbrev cA (K : PySem.W.Frag) (x : String) : Addr := ga K (Str.ofString x)
/-- cs: the error classes; cl: all classes that isinstance or except name; fds: the attributes that are read -/
def clsB (cs : List MC) (cl fds : List String) (K : PySem.W.Frag) : Bool :=
  (cl.all fun C => eqO (PySem.W.nsIn K mainGlobals (Str.ofString C)) (some (some (.ref (cA K C)))) && tyTs.all fun t => decide (PySem.W.kitOne K (.type t) (.ref (cA K C)) = some false)) &&
  (cs.all fun m => eqO (PySem.W.nsIn K mainGlobals (Str.ofString m.name)) (some (some (.ref (cA K m.name)))) && (excB K (cA K m.name) && (decide (PySem.W.kitOne K (.ref (cA K m.name)) (.type "ValueError") = some true) &&
    ((cl.all fun C0 => decide (PySem.W.exmOne K (.ref (cA K m.name)) (.ref (cA K C0)) = some (isExc m.name C0)) && decide (PySem.W.kitOne K (.ref (cA K m.name)) (.ref (cA K C0)) = some (isExc m.name C0))) &&
    ((fds.all fun f => eqO (PySem.W.findIn K (.ref (cA K m.name)) (Str.ofString f)) (some none)) &&
    (match m.fs with
      | [] => PySem.W.excIn K (cA K m.name) He.veBase "ValueError.__new__" && (PySem.W.keepIn K (.ref (cA K m.name)) && (decide (PySem.W.subIn K (.ref (cA K m.name)) (.type "BaseException") = some true) && decide (PySem.W.typeIn K (.ref (cA K m.name)) = some (.type "type"))))
      | _ => oexB K (cA K m.name) && ((m.fs.all fun f => eqO (PySem.W.findIn K (.ref (cA K m.name)) (Str.ofString f)) (some none)) && (eqO (PySem.W.findIn K (.ref (cA K m.name)) "__init__") (some (some (.ref (ma K (cA K m.name) "__init__")))) && decide (PySem.W.typeIn K (.ref (ma K (cA K m.name) "__init__")) = some (.type "function"))))))))))
def flOf (cs : List MC) : Flds := fun C => (cs.find? fun m => decide (m.name = C)).map (·.fs)
theorem flOf_mem {cs : List MC} {C : String} {fs : List String} (h : flOf cs C = some fs) : ⟨C, fs⟩ ∈ cs := by
  unfold flOf at h
  obtain ⟨m, h1, h2⟩ := Option.map_eq_some_iff.mp h
  have e := List.find?_some h1
  have e2 : m.name = C := of_decide_eq_true e
  have := List.mem_of_find?_eq_some h1
  subst e2 h2
  exact this
section
variable {cs : List MC} {cl fds : List String} {K : PySem.W.Frag} {h : Heap} {mg : Str → Option Value} {ar : String → Nat → Bool}
theorem stc_of (X : K.In h) (G : h.Ns mainGlobals mg) (hb : clsB cs cl fds K = true) (blt : ∀ x ∈ bltNames, mg (Str.ofString x) = none) (glo : ∀ f n, n < 900 → ar f n = true → ∃ a, mg (Str.ofString f) = some (.ref a))
    (h9 : ∀ C, ar C 999 = true → C ∈ cl) (h8 : ∀ f, ar f 998 = true → f ∈ fds) : Stc (flOf cs) ar K mg := by
  unfold clsB at hb
  obtain ⟨b1, b2⟩ := ba hb
  have c1 : ∀ C ∈ cl, mg (Str.ofString C) = some (.ref (cA K C)) ∧ ∀ t ∈ tyTs, PySem.W.kitOne K (.type t) (.ref (cA K C)) = some false := fun C hC => by
    obtain ⟨k1, k2⟩ := ba (List.all_eq_true.mp b1 C hC)
    exact ⟨PySem.W.mg_of X G (eqO_ok k1), fun t ht => of_decide_eq_true (List.all_eq_true.mp k2 t ht)⟩
  have c2 : ∀ C fs, flOf cs C = some fs → mg (Str.ofString C) = some (.ref (cA K C)) ∧ L2.ExcC K (cA K C) ∧ PySem.W.kitOne K (.ref (cA K C)) (.type "ValueError") = some true ∧ (∀ C0 ∈ cl, PySem.W.exmOne K (.ref (cA K C)) (.ref (cA K C0)) = some (isExc C C0) ∧ PySem.W.kitOne K (.ref (cA K C)) (.ref (cA K C0)) = some (isExc C C0)) ∧ ∀ f ∈ fds, PySem.W.findIn K (.ref (cA K C)) (Str.ofString f) = some none := fun C fs hf => by
    have := List.all_eq_true.mp b2 _ (flOf_mem hf)
    obtain ⟨k1, this⟩ := ba this
    obtain ⟨k2, this⟩ := ba this
    obtain ⟨k3, this⟩ := ba this
    obtain ⟨k4, this⟩ := ba this
    obtain ⟨k5, _⟩ := ba this
    exact ⟨PySem.W.mg_of X G (eqO_ok k1), excB_ok k2, of_decide_eq_true k3, fun C0 h0 => by
      obtain ⟨z1, z2⟩ := ba (List.all_eq_true.mp k4 C0 h0)
      exact ⟨of_decide_eq_true z1, of_decide_eq_true z2⟩, fun f hf => eqO_ok (List.all_eq_true.mp k5 f hf)⟩
  refine ⟨blt, fun C hC => ⟨_, c1 C (h9 C hC)⟩, glo, fun C fs C0 hf h0 => ⟨_, _, (c2 C fs hf).1, (c1 C0 (h9 C0 h0)).1, ((c2 C fs hf).2.2.2.1 C0 (h9 C0 h0)).1⟩, fun C fs Ca f hf hm hh => ?_, fun C fs hf => ⟨_, (c2 C fs hf).1, (c2 C fs hf).2.1, fun cn b hi hc => ?_⟩⟩
  · rw [(c2 C fs hf).1] at hm
    cases hm
    exact (c2 C fs hf).2.2.2.2 f (h8 f hh)
  · cases cn with
    | ty n =>
      have hi' : (if n = "ValueError" then some true else none) = some b := hi
      by_cases hn : n = "ValueError"
      · rw [if_pos hn] at hi'
        cases hi'
        subst hn
        exact ⟨.ty "ValueError", .type "ValueError", rfl, fun u hu => hu, (c2 C fs hf).2.2.1⟩
      · rw [if_neg hn] at hi'
        cases hi'
    | cl n =>
      have hi' : some (isExc C n) = some b := hi
      cases hi'
      have hn := h9 n (hc n rfl)
      exact ⟨.ref (cA K n), .ref (cA K n), ⟨_, (c1 n hn).1, rfl⟩, fun u hu => hu, ((c2 C fs hf).2.2.2.1 n hn).2⟩
end
end RX

/-! F27: a text against a program; what the head tells; TxOk. -/
namespace RX
open PySem PySem.Spec PyProof.Rows
open L2 (Hp V HO VK XK WX upd Cx Vis)
open He (ga ma fAd ba eqO eqO_ok Fa DefD)
structure MD where
  name : String
  N : List Str
  lam : Bool
  df : Df
structure MA where
  name : String
  N : List Str
  ad : Ad
/-- a text: defs, defs that ask, error classes, all classes, attributes that are read -/
structure MT where
  ds : List MD
  as : List MA
  cs : List MC
  cl : List String
  fds : List String
def MT.d (m : MT) (f : String) : Option MD := m.ds.find? fun d => decide (d.name = f)
def MT.a (m : MT) (f : String) : Option MA := m.as.find? fun d => decide (d.name = f)
def MT.tx (m : MT) : Tx := ⟨fun f => (m.d f).map (·.df), fun f => (m.a f).map (·.ad), flOf m.cs⟩
def MT.ar (m : MT) : String → Nat → Bool := fun f n => if n < 900 then (match m.d f with
  | some d => decide (n = d.df.np)
  | none => false) else if n = 996 then (m.a f).isSome else if n = 998 then decide (f ∈ m.fds) else if n = 999 then decide (f ∈ m.cl) else false
def fnIn : List Stmt → Str → Option (Arguments × List Stmt × Scope)
  | [], _ => none
  | st :: r, x => (match fnIn r x with
    | some z => some z
    | none => (match st with
      | .FunctionDef n a b _ _ _ sc _ _ _ => if n = x then some (a, b, sc) else none
      | _ => none))
def clBody : List Stmt → Str → List Stmt
  | [], _ => []
  | st :: r, x => (match st with
    | .ClassDef n _ _ b _ _ _ _ _ _ _ => if n = x then b else clBody r x
    | _ => clBody r x)
abbrev Fn3 : Type := Arguments × List Stmt × Scope
def noFn : Fn3 := (⟨[], [], none, [], [], none, []⟩, [], ⟨.module, [], false, false, []⟩)
def fnAt (p : Program) (f : String) : Fn3 := (fnIn p.main.body (Str.ofString f)).getD noFn
def initAt (p : Program) (C : String) : Fn3 := (fnIn (clBody p.main.body (Str.ofString C)) "__init__").getD noFn
def ddF (p : Program) (f : String) : DefD := { at_ := (Str.ofString f, none), name := Str.ofString f, qual := Str.ofString f, params := (fnAt p f).1, body := (fnAt p f).2.1, scope := (fnAt p f).2.2 }
def ddI (p : Program) (C : String) : DefD := { at_ := (Str.ofString C, some "__init__"), name := "__init__", qual := Str.ofString C ++ ".__init__", params := (initAt p C).1, body := (initAt p C).2.1, scope := (initAt p C).2.2 }
def withF (m : MT) : List MC := m.cs.filter fun c => !c.fs.isEmpty
def MT.fn (m : MT) (p : Program) : List DefD := m.ds.map (fun d => ddF p d.name) ++ (m.as.map (fun d => ddF p d.name) ++ (withF m).map fun c => ddI p c.name)
def MT.fa (m : MT) : List Fa := bltNames.map (fun x => Fa.free (Str.ofString x)) ++ (m.ds.map (fun d => Fa.glo (Str.ofString d.name)) ++ m.as.map fun d => Fa.glo (Str.ofString d.name))
def MT.tf (m : MT) : List He.Defn := (m.ds.filter (·.lam)).map fun d => (Str.ofString d.name, none)
def MT.ex (m : MT) (K : PySem.W.Frag) : Bool := clsB m.cs m.cl m.fds K && decide ((m.tf.map fun q => (He.cT K q).2).Nodup)
def MT.T (m : MT) (K : PySem.W.Frag) : List (Addr × Str) := m.tf.map fun q => ((He.cT K q).2, lamQ q.1)
/-! ### the check -/
def scB (N ps : List Str) (sc : Scope) : Bool := decide (sc.kind = .function) && (!sc.isCoroutine && (!sc.isGenerator && (decide N.Nodup && (decide (N.take ps.length = ps) && ((ps.all fun x => locB sc x) && sc.names.all fun y => decide (y.2 ≠ .free))))))
theorem scB_ok {N ps : List Str} {sc : Scope} (h : scB N ps sc = true) : L2.FnScope N ps sc := by
  unfold scB at h
  simp only [Bool.and_eq_true, Bool.not_eq_true', decide_eq_true_eq, List.all_eq_true] at h
  obtain ⟨h1, h2, h3, h4, h5, h6, h7⟩ := h
  exact ⟨h1, h2, h3, h4, h5, fun x hx => locB_ok (h6 x hx), fun y hy => h7 y hy⟩
abbrev psOf (a : Arguments) : List Str := a.args.map (·.arg)
def chkDef (m : MT) (p : Program) (d : MD) : Bool := plainA (fnAt p d.name).1 && (scB d.N (psOf (fnAt p d.name).1) (fnAt p d.name).2.2 && (decide ((psOf (fnAt p d.name).1).length = d.df.np) && (decide (d.df.ns = d.N.length) && (decide (d.df.np ≤ d.df.ns) && (d.df.dfl.isEmpty &&
  chkSs (flOf m.cs) (arD m.ar d.lam) true (fnAt p d.name).2.2 d.N d.df.body (fnAt p d.name).2.1)))))
def chkAsk (m : MT) (p : Program) (d : MA) : Bool := plainA (fnAt p d.name).1 && (match psOf (fnAt p d.name).1, dAsk (fnAt p d.name).2.1 with
  | [a], some (tag, a', e, n, s0, ss) => decide (a = a') && (scB d.N [a] (fnAt p d.name).2.2 && (decide (d.N[0]? = some a) && (visB (fnAt p d.name).2.2 a && (okN a && (decide (strOf d.ad.tag = tag) && (decide (d.ad.ns = d.N.length) && (decide (d.N[d.ad.i]? = some n) &&
      (decide ((fnAt p d.name).2.2.names.lookup n = some .local) && (gnB (fnAt p d.name).2.2 d.ad.C0 e && (m.ar d.ad.C0 999 && chkSs (flOf m.cs) (arL (arD m.ar false)) false (fnAt p d.name).2.2 d.N d.ad.s (s0 :: ss)))))))))))
  | _, _ => false)
def chkCls (p : Program) (c : MC) : Bool := plainA (initAt p c.name).1 && (scB (psOf (initAt p c.name).1) (psOf (initAt p c.name).1) (initAt p c.name).2.2 && (decide ((psOf (initAt p c.name).1).length = c.fs.length + 1) && (decide (c.fs.length ≤ 800) && chkInit (initAt p c.name).2.2 (psOf (initAt p c.name).1) 1 c.fs (initAt p c.name).2.1)))
def MT.chk (m : MT) (p : Program) : Bool := m.ds.all (chkDef m p) && (m.as.all (chkAsk m p) && (withF m).all (chkCls p))
/-! ### what follows -/
theorem binds_of {K : PySem.W.Frag} {x qual : Str} {params : Arguments} {body : List Stmt} {scope : Scope} {f : Addr} {fd : FuncData} (F : L2.FunD K x qual params body scope [] [] f fd) (hp : plainA params = true) (hn : (psOf params).Nodup) : L2.Binds K fd (psOf params) [] :=
  L2.FunD.bindsN F fun kV doc pm an cdv ct us hl => bind_plain (fd := PySem.W.fnOf x qual params body scope .none kV doc pm an cdv ct) hp rfl hn hl
section
variable {m : MT} {p : Program} {w : World} {K : PySem.W.Frag} {h base : Heap} {mg : Str → Option Value}
theorem md_mem {f : String} {d : MD} (hd : m.d f = some d) : d ∈ m.ds ∧ d.name = f := ⟨List.mem_of_find?_eq_some hd, of_decide_eq_true (List.find?_some (p := fun d : MD => decide (d.name = f)) hd)⟩
theorem ma_mem {f : String} {d : MA} (hd : m.a f = some d) : d ∈ m.as ∧ d.name = f := ⟨List.mem_of_find?_eq_some hd, of_decide_eq_true (List.find?_some (p := fun d : MA => decide (d.name = f)) hd)⟩
/-- the facts of a def, by its record -/
def mkDI (K : PySem.W.Frag) (p : Program) (d : MD) (fd : FuncData) : DI := ⟨ga K (Str.ofString d.name), fd, Str.ofString d.name, Str.ofString d.name, (fnAt p d.name).1, (fnAt p d.name).2.1, (fnAt p d.name).2.2, [], d.N, psOf (fnAt p d.name).1, d.lam⟩
open Classical in
noncomputable def MT.I (m : MT) (p : Program) (K : PySem.W.Frag) : String → Option DI := fun f => match m.d f with
  | some d => if hx : ∃ fd, L2.FunD K (Str.ofString d.name) (Str.ofString d.name) (fnAt p d.name).1 (fnAt p d.name).2.1 (fnAt p d.name).2.2 [] [] (ga K (Str.ofString d.name)) fd then some (mkDI K p d (Classical.choose hx)) else none
  | none => none
theorem ar_low {f : String} {n : Nat} (hn : n < 900) (h : m.ar f n = true) : ∃ d, m.d f = some d ∧ n = d.df.np := by
  unfold MT.ar at h
  rw [if_pos hn] at h
  split at h
  · rename_i d hd
    exact ⟨d, hd, of_decide_eq_true h⟩
  · cases h
theorem ar_996 {f : String} (h : m.ar f 996 = true) : ∃ d, m.a f = some d := Option.isSome_iff_exists.mp h
theorem ar_998 {f : String} (h : m.ar f 998 = true) : f ∈ m.fds := of_decide_eq_true h
theorem ar_999 {f : String} (h : m.ar f 999 = true) : f ∈ m.cl := of_decide_eq_true h
theorem ad_ne {lam : Bool} {f : String} {n : Nat} (hn : n ≠ 997) : arD m.ar lam f n = m.ar f n := by
  unfold arD
  rw [if_neg hn]
/-- the text's facts, from what the head tells -/
theorem tx_ok (ck : m.chk p = true) (X : K.In h) (G : h.Ns mainGlobals mg) (sx : He.SaysX m.fa (m.fn p) [] m.tf m.ex w h K) (TB : ∀ q ∈ m.tf, LamX.TabB base mg (He.cT K q).1 (He.cT K q).2) : TxOk m.tx (m.I p K) p w K mg base (m.T K) ⟨K, mg, none⟩ m.ar := by
  obtain ⟨ck1, ck⟩ := ba ck
  obtain ⟨ck2, ck3⟩ := ba ck
  obtain ⟨ex1, ex2⟩ := ba sx.more
  have ex2 := of_decide_eq_true ex2
  have sd := sx.t.d
  have free : ∀ x ∈ bltNames, mg (Str.ofString x) = none := fun x hx => He.free_ok X G (sd.facts (f := Fa.free (Str.ofString x)) (List.mem_append_left _ (List.mem_map.mpr ⟨x, hx, rfl⟩)))
  have gloD : ∀ d ∈ m.ds, mg (Str.ofString d.name) = some (.ref (ga K (Str.ofString d.name))) := fun d hd => He.glo_ok X G (sd.facts (List.mem_append_right _ (List.mem_append_left _ (List.mem_map.mpr ⟨d, hd, rfl⟩))))
  have gloA : ∀ d ∈ m.as, mg (Str.ofString d.name) = some (.ref (ga K (Str.ofString d.name))) := fun d hd => He.glo_ok X G (sd.facts (List.mem_append_right _ (List.mem_append_right _ (List.mem_map.mpr ⟨d, hd, rfl⟩))))
  have fdD : ∀ d ∈ m.ds, ∃ fd, L2.FunD K (Str.ofString d.name) (Str.ofString d.name) (fnAt p d.name).1 (fnAt p d.name).2.1 (fnAt p d.name).2.2 [] [] (ga K (Str.ofString d.name)) fd := fun d hd => sd.defs (d := ddF p d.name) (List.mem_append_left _ (List.mem_map.mpr ⟨d, hd, rfl⟩))
  have fdA : ∀ d ∈ m.as, ∃ fd, L2.FunD K (Str.ofString d.name) (Str.ofString d.name) (fnAt p d.name).1 (fnAt p d.name).2.1 (fnAt p d.name).2.2 [] [] (ga K (Str.ofString d.name)) fd := fun d hd => sd.defs (d := ddF p d.name) (List.mem_append_right _ (List.mem_append_left _ (List.mem_map.mpr ⟨d, hd, rfl⟩)))
  have fdC : ∀ c ∈ withF m, ∃ fd, L2.FunD K "__init__" (Str.ofString c.name ++ ".__init__") (initAt p c.name).1 (initAt p c.name).2.1 (initAt p c.name).2.2 [] [] (ma K (ga K (Str.ofString c.name)) "__init__") fd := fun c hc => sd.defs (d := ddI p c.name) (List.mem_append_right _ (List.mem_append_right _ (List.mem_map.mpr ⟨c, hc, rfl⟩)))
  have stc : ∀ lam, Stc (flOf m.cs) (arD m.ar lam) K mg := fun lam => stc_of X G ex1 free (fun f n hn har => by
      rw [ad_ne (by omega)] at har
      obtain ⟨d, hd, _⟩ := ar_low hn har
      obtain ⟨h1, h2⟩ := md_mem hd
      exact ⟨_, by rw [← h2]; exact gloD d h1⟩) (fun C hC => ar_999 (by rw [ad_ne (by decide)] at hC; exact hC)) fun f hf => ar_998 (by rw [ad_ne (by decide)] at hf; exact hf)
  have iof : ∀ f i, m.I p K f = some i → ∃ d fd, m.d f = some d ∧ i = mkDI K p d fd ∧ L2.FunD K (Str.ofString d.name) (Str.ofString d.name) (fnAt p d.name).1 (fnAt p d.name).2.1 (fnAt p d.name).2.2 [] [] (ga K (Str.ofString d.name)) fd := fun f i hi => by
    unfold MT.I at hi
    split at hi
    · rename_i d hd
      split at hi
      · rename_i hx
        cases hi
        exact ⟨d, _, hd, rfl, Classical.choose_spec hx⟩
      · cases hi
    · cases hi
  have ihas : ∀ f d, m.d f = some d → ∃ fd, m.I p K f = some (mkDI K p d fd) ∧ L2.FunD K (Str.ofString d.name) (Str.ofString d.name) (fnAt p d.name).1 (fnAt p d.name).2.1 (fnAt p d.name).2.2 [] [] (ga K (Str.ofString d.name)) fd := fun f d hd => by
    have hx := fdD d (md_mem hd).1
    refine ⟨Classical.choose hx, ?_, Classical.choose_spec hx⟩
    unfold MT.I
    rw [hd]
    dsimp only
    rw [dif_pos hx]
  have chk1 : ∀ d ∈ m.ds, plainA (fnAt p d.name).1 = true ∧ L2.FnScope d.N (psOf (fnAt p d.name).1) (fnAt p d.name).2.2 ∧ (psOf (fnAt p d.name).1).length = d.df.np ∧ d.df.ns = d.N.length ∧ d.df.np ≤ d.df.ns ∧ d.df.dfl = [] ∧ chkSs (flOf m.cs) (arD m.ar d.lam) true (fnAt p d.name).2.2 d.N d.df.body (fnAt p d.name).2.1 = true := fun d hd => by
    have z := List.all_eq_true.mp ck1 d hd
    unfold chkDef at z
    obtain ⟨z1, z⟩ := ba z
    obtain ⟨z2, z⟩ := ba z
    obtain ⟨z3, z⟩ := ba z
    obtain ⟨z4, z⟩ := ba z
    obtain ⟨z5, z⟩ := ba z
    obtain ⟨z6, z7⟩ := ba z
    exact ⟨z1, scB_ok z2, of_decide_eq_true z3, of_decide_eq_true z4, of_decide_eq_true z5, List.isEmpty_iff.mp z6, z7⟩
  have ndp : ∀ {N ps : List Str} {sc : Scope}, L2.FnScope N ps sc → ps.Nodup := fun {N ps sc} S => by
    rw [← S.pre]
    exact List.Nodup.sublist (List.take_sublist _ _) S.nd
  refine ⟨rfl, rfl, rfl, stc, fun f d i hG hI => ?_, fun f n hn har => ?_, fun f hf => ?_, fun C fs hf Z z1 z2 z3 z4 z5 hr => ?_⟩
  · obtain ⟨d', fd, hd, rfl, FD⟩ := iof f i hI
    have e : d = d'.df := by
      have hG' : (m.d f).map (·.df) = some d := hG
      rw [hd] at hG'
      cases hG'
      rfl
    subst e
    obtain ⟨h1, h2⟩ := md_mem hd
    obtain ⟨k1, k2, k3, k4, k5, k6, k7⟩ := chk1 d' h1
    refine ⟨by rw [← h2]; exact gloD d' h1, FD, k2, k3, k4, k5, k7, fun hl => ?_⟩
    have hl : d'.lam = true := hl
    have hq : (Str.ofString d'.name, (none : Option Str)) ∈ m.tf := List.mem_map.mpr ⟨d', List.mem_filter.mpr ⟨h1, hl⟩, rfl⟩
    obtain ⟨oc, od, dV, kV, doc, pm, an, cdv, ct, osl, hfd, lk, hcd, _, _⟩ := FD.ex
    obtain ⟨c, ec⟩ := He.codeIn_ref hcd
    have e1 : fd.code = .ref c := by
      rw [hfd]
      exact ec
    have e2 : He.codeOf K (Str.ofString d'.name, none) = c := He.codeOf_eq (p := (Str.ofString d'.name, none)) lk e1
    refine ⟨c, (He.cT K (Str.ofString d'.name, none)).2, e1, ?_, List.mem_map.mpr ⟨_, hq, rfl⟩, fun q hq2 e3 => ?_⟩
    · have := TB _ hq
      have e4 : (He.cT K (Str.ofString d'.name, none)).1 = c := e2
      rw [e4] at this
      exact this
    · obtain ⟨q', hq', rfl⟩ := List.mem_map.mp hq2
      have e3' : (He.cT K q').2 = (He.cT K (Str.ofString d'.name, none)).2 := e3
      have e5 : q' = (Str.ofString d'.name, none) := by
        obtain ⟨a, ha, ea⟩ := List.getElem_of_mem hq'
        obtain ⟨b, hb, eb⟩ := List.getElem_of_mem hq
        have nd := ex2
        have hab : a = b := by
          refine (List.getElem_inj (h₀ := by simpa using ha) (h₁ := by simpa using hb) nd).mp ?_
          rw [List.getElem_map, List.getElem_map, ea, eb]
          exact e3'
        subst hab
        rw [← ea, eb]
      rw [e5]
      rfl
  · obtain ⟨d, hd, hnp⟩ := ar_low hn har
    obtain ⟨fd, hI, FD⟩ := ihas f d hd
    obtain ⟨h1, h2⟩ := md_mem hd
    obtain ⟨k1, k2, k3, k4, k5, k6, k7⟩ := chk1 d h1
    refine ⟨d.df, _, [], [], by show (m.d f).map (·.df) = _; rw [hd]; rfl, hI, by omega, by omega, binds_of FD k1 (ndp k2), .nil, fun ia O H => ?_⟩
    rw [k6, List.drop_nil]
    unfold Reps
    rfl
  · obtain ⟨d, hd⟩ := ar_996 hf
    obtain ⟨h1, h2⟩ := ma_mem hd
    subst h2
    obtain ⟨fd, FD⟩ := fdA d h1
    have FD' := FD
    obtain ⟨oc, od, dV, kV, doc, pm, an, cdv, ct, osl, hfd, lk, hcd, _, _⟩ := FD'.ex
    have z := List.all_eq_true.mp ck2 d h1
    unfold chkAsk at z
    obtain ⟨z1, z⟩ := ba z
    split at z
    · rename_i a tag a' e n s0 ss hps hda
      simp only [Bool.and_eq_true, decide_eq_true_eq] at z
      obtain ⟨rfl, z2, z3, z4, z5, z6, z7, z8, z9, z10, z11, z12⟩ := z
      have S := scB_ok z2
      unfold okN at z5
      simp only [Bool.and_eq_true, Bool.not_eq_true'] at z5
      have bd := binds_of FD z1 (by rw [hps]; exact ndp S)
      rw [hps] at bd
      refine ⟨d.ad, ga K (Str.ofString d.name), (fnAt p d.name).1, (fnAt p d.name).2.1, (fnAt p d.name).2.2, dV, kV, doc, pm, cdv, ct, oc, an, od, osl, d.N, a, by show (m.a d.name).map (·.ad) = _; rw [hd]; rfl, gloA d h1, FD.kp, by rw [← hfd]; exact lk, hcd, by rw [← hfd]; exact bd, S, z3, visB_ok z4, z5.1.1, z5.1.2, e, n, s0, ss, tag, hda, z6, z7, z8, z9, z10, z11, z12⟩
    · cases z
  · subst z1 z2 z3 z4 z5
    have hmem := flOf_mem hf
    unfold clsB at ex1
    obtain ⟨_, b2⟩ := ba ex1
    have q := List.all_eq_true.mp b2 _ hmem
    obtain ⟨q1, q⟩ := ba q
    obtain ⟨_, q⟩ := ba q
    obtain ⟨_, q⟩ := ba q
    obtain ⟨_, q⟩ := ba q
    obtain ⟨_, q⟩ := ba q
    have hmC := PySem.W.mg_of X G (eqO_ok q1)
    cases fs with
    | nil =>
      obtain ⟨r1, q⟩ := ba q
      obtain ⟨r2, q⟩ := ba q
      obtain ⟨r3, r4⟩ := ba q
      exact raise_own0 r1 r2 (L2.raises_own (of_decide_eq_true r3) (of_decide_eq_true r4)) hmC
    | cons f fs =>
      obtain ⟨r1, q⟩ := ba q
      obtain ⟨r2, q⟩ := ba q
      obtain ⟨r3, r4⟩ := ba q
      have hw : (⟨C, f :: fs⟩ : MC) ∈ withF m := List.mem_filter.mpr ⟨hmem, rfl⟩
      obtain ⟨fd, FD⟩ := fdC _ hw
      have c := List.all_eq_true.mp ck3 _ hw
      unfold chkCls at c
      obtain ⟨c1, c⟩ := ba c
      obtain ⟨c2, c⟩ := ba c
      obtain ⟨c3, c⟩ := ba c
      obtain ⟨c4, c5⟩ := ba c
      have S := scB_ok c2
      have T := oexB_ok r1
      have c4' : (f :: fs).length ≤ 800 := of_decide_eq_true c4
      have hl : fs.length ≤ 800 := by
        simp at c4'
        omega
      have nf : ∀ g ∈ f :: fs, PySem.W.findIn Z.K (.ref (cA Z.K C)) (Str.ofString g) = some none := fun g hg => eqO_ok (List.all_eq_true.mp r2 g hg)
      have FN := init_fn (P := Z.prog) (w := Z.w) (mg := Z.mg) (base := Z.base) (CX := C8.CX0) FD S (of_decide_eq_true c3) T nf hl c5
      exact raise_oex (CX := C8.CX0) T (eqO_ok r3) (of_decide_eq_true r4) FN hr (binds_of FD c1 (ndp S)) hmC hl
end
end RX

/-! F28: the law's promise from the evaluator. -/
namespace RX
open PySem PySem.Spec PyProof.Rows
open L2 (Hp V HO VK XK WX upd Cx Vis)
open He (ga ma fAd ba eqO eqO_ok Fa DefD)
theorem reps_ints {p : Pm} {ia : List Addr} {O : Addr → Prop} {H : Hp} : ∀ ns : List Int, Reps p ia O H (ns.map D.int) (ns.map V.int)
  | [] => by
    unfold Reps
    rfl
  | n :: ns => by
    rw [List.map_cons, List.map_cons]
    unfold Reps
    exact ⟨_, _, rfl, by unfold Rep; rfl, reps_ints ns⟩
section
variable {l : PySem.W.OpenLaw} {m : MT} {w : World} {K : PySem.W.Frag} {h : Heap} {mg : Str → Option Value} {fa : Addr} {k : Nat} {x : Str} {d : MD} {N : Nat}
theorem law_at (ck : m.chk l.prog = true) (X : K.In h) (G : h.Ns mainGlobals mg) (sx : He.SaysX m.fa (m.fn l.prog) [] m.tf m.ex w h K) (hd : m.d "law" = some d) (hnp : d.df.np = 1) (hx : psOf (fnAt l.prog "law").1 = [x]) (hmg : mg (Str.ofString "law") = some (.ref fa)) (hk : 3 ≤ k)
    (ev : ∀ ns : List Int, ns.length ≤ N → (∀ z ∈ ns, Builtin.Int.intBits z ≤ 1048576) → ∃ fr cs, callN m.tx k "law" [.frz (ns.map D.int)] [] = .ok (.bl true) fr cs) : LamX.LawAtS l w K (L2.CX l.prog w) k N x mg fa h := by
  obtain ⟨hm, hname⟩ := md_mem hd
  have hname : d.name = "law" := hname
  have sd := sx.t.d
  have glo : mg (Str.ofString d.name) = some (.ref (ga K (Str.ofString d.name))) := He.glo_ok X G (sd.facts (List.mem_append_right _ (List.mem_append_left _ (List.mem_map.mpr ⟨d, hm, rfl⟩))))
  have hfd : ∃ fd, L2.FunD K (Str.ofString d.name) (Str.ofString d.name) (fnAt l.prog d.name).1 (fnAt l.prog d.name).2.1 (fnAt l.prog d.name).2.2 [] [] (ga K (Str.ofString d.name)) fd := sd.defs (d := ddF l.prog d.name) (List.mem_append_left _ (List.mem_map.mpr ⟨d, hm, rfl⟩))
  have hI : m.I l.prog K "law" = some (mkDI K l.prog d (Classical.choose hfd)) := by
    unfold MT.I
    rw [hd]
    dsimp only
    rw [dif_pos hfd]
  have FD := Classical.choose_spec hfd
  have efa : fa = ga K (Str.ofString d.name) := by
    rw [← hname, glo] at hmg
    cases hmg
    rfl
  have hG : m.tx.G "law" = some d.df := by
    show (m.d "law").map (·.df) = _
    rw [hd]
    rfl
  obtain ⟨ck1, _⟩ := ba ck
  have z := List.all_eq_true.mp ck1 d hm
  unfold chkDef at z
  obtain ⟨z1, z⟩ := ba z
  have hps : psOf (fnAt l.prog d.name).1 = [x] := by rw [hname]; exact hx
  refine ⟨Classical.choose hfd, m.tf.map (He.cT K), spN m.tx ⟨K, mg, none⟩ (m.T K) k d.df, fun q hq => ?_, fun q hq => ?_, fun q hq => ?_, fun s u => ?_, fun H a ns hl hb hT hS => ?_, fun base KB GB TB => ?_⟩
  · obtain ⟨q', hq', rfl⟩ := List.mem_map.mp hq
    exact sx.empty q' hq'
  · obtain ⟨q', hq', rfl⟩ := List.mem_map.mp hq
    exact sx.out q' hq'
  · obtain ⟨q', hq', rfl⟩ := List.mem_map.mp hq
    exact PySem.W.codeHd_of_K X (sx.hd q' hq')
  · have b := L2.FunD.bindsA (ps := [x]) FD fun kV doc pm an cdv ct us hl => by
      have := bind_plain (fd := PySem.W.fnOf (Str.ofString d.name) (Str.ofString d.name) (fnAt l.prog d.name).1 (fnAt l.prog d.name).2.1 (fnAt l.prog d.name).2.2 .none kV doc pm an cdv ct) (us := us) z1 rfl (by show (psOf (fnAt l.prog d.name).1).Nodup; rw [hps]; simp) (by show us.length = (psOf (fnAt l.prog d.name).1).length; rw [hps]; exact hl)
      have e : (PySem.W.fnOf (Str.ofString d.name) (Str.ofString d.name) (fnAt l.prog d.name).1 (fnAt l.prog d.name).2.1 (fnAt l.prog d.name).2.2 .none kV doc pm an cdv ct).params.args.map (·.arg) = [x] := hps
      rw [e] at this
      exact this
    exact b s [u] rfl
  · refine ⟨by rw [hnp]; rfl, [.frz (ns.map D.int)], [], by rw [hnp]; rfl, [], fun _ => False, (fun a ha => by cases ha), (fun a ha => ha.elim), fun q hq => ?_, ⟨rfl, List.nodup_nil, fun i a d h1 => by simp at h1⟩, ?_, ?_⟩
    · obtain ⟨q', hq', rfl⟩ := List.mem_map.mp hq
      exact LamX.TabS.nil (hT _ (List.mem_map.mpr ⟨q', hq', rfl⟩))
    · unfold Reps
      refine ⟨.ref a, [], rfl, ?_, by unfold Reps; rfl⟩
      unfold Rep
      refine ⟨a, ns.map V.int, rfl, ?_, reps_ints ns⟩
      rcases hS with (hS | hS) | hS
      · exact .inl ⟨hS, fun z => z⟩
      · exact .inr (.inl hS)
      · exact .inr (.inr hS)
    · rw [if_neg (by omega)]
      obtain ⟨fr, cs, e⟩ := ev ns hl hb
      obtain ⟨j, rfl⟩ : ∃ j, k = j + 3 := ⟨k - 3, by omega⟩
      rw [callN_succ] at e
      unfold stepF at e
      rw [hG] at e
      dsimp only at e
      have hf : fillD d.df [D.frz (ns.map D.int)] = some ([D.frz (ns.map D.int)] ++ d.df.dfl.drop (1 + d.df.dfl.length - 1)) := by
        unfold fillD
        rw [hnp, if_pos ⟨Nat.le_refl _, by simp⟩]
        rfl
      have e0 : d.df.dfl.drop (1 + d.df.dfl.length - 1) = [] := List.drop_eq_nil_of_le (by omega)
      rw [hf, e0, List.append_nil] at e
      show PostC _ _ _ _ _ (runD m.tx.fl (ctOf m.tx (lev m.tx (j + 3 - 1))) d.df [.frz (ns.map D.int)] []) _ _
      have e1 : j + 3 - 1 = j + 2 := rfl
      rw [e1]
      have e2 : runD m.tx.fl (ctOf m.tx (lev m.tx (j + 2))) d.df [.frz (ns.map D.int)] [] = .ok (.bl true) fr cs := e
      rw [e2]
      intro v H' _ _ _ r _
      unfold Rep at r
      exact r
  · have tx := tx_ok (base := base) ck X G sx fun q hq => TB _ (List.mem_map.mpr ⟨q, hq, rfl⟩)
    have fn := lev_ok tx k "law" d.df _ hG hI
    rw [efa, ← hps]
    exact fn
end
end RX

/-! D1: defs that many laws share. -/
namespace RX
open PySem
def b_whole_number : Df := ⟨1, 1, [],
  .cons (.ret (.and (.cons (.isi (.bor 0) [.ty "int"]) (.cons (.not (.isi (.bor 0) [.ty "bool"])) .nil)))) .nil⟩
def b_common_divisor : Df := ⟨2, 2, [],
  .cons (.asg 0 (.bu .abs (.bor 0))) (
  .cons (.asg 1 (.bu .abs (.bor 1))) (
  .cons (.whl (.cmp .NotEq (.bor 1) (.kI 0)) (.cons (.par 0 1 (.nm 1) (.bin .Mod (.bor 0) (.bor 1))) .nil)) (
  .cons (.ret (.nm 0)) .nil)))⟩
def b_lowest : Df := ⟨2, 3, [],
  .cons (.asg 2 (.call "common_divisor" (.cons (.nm 0) (.cons (.nm 1) .nil)))) (
  .cons (.ite (.cmp .Lt (.bor 1) (.kI 0)) (.cons (.asg 2 (.neg (.nm 2))) .nil) (.nil)) (
  .cons (.ret (.tupD (.cons (.bin .FloorDiv (.bor 0) (.bor 2)) (.cons (.bin .FloorDiv (.bor 1) (.bor 2)) .nil)))) .nil))⟩
def b_is_fraction : Df := ⟨1, 3, [],
  .cons (.ite (.or (.cons (.not (.isi (.bor 0) [.ty "tuple"])) (.cons (.cmp .NotEq (.bu .len (.bor 0)) (.kI 2)) .nil))) (.cons (.ret (.kB false)) .nil) (.nil)) (
  .cons (.asgT [1, 2] (.nm 0)) (
  .cons (.ite (.or (.cons (.not (.call "whole_number" (.cons (.nm 1) .nil))) (.cons (.not (.call "whole_number" (.cons (.nm 2) .nil))) .nil))) (.cons (.ret (.kB false)) .nil) (.nil)) (
  .cons (.ret (.and (.cons (.cmp .GtE (.bor 2) (.kI 1)) (.cons (.cmp .Eq (.call "common_divisor" (.cons (.nm 1) (.cons (.nm 2) .nil))) (.kI 1)) .nil)))) .nil)))⟩
def b_check_pair : Df := ⟨2, 2, [],
  .cons (.ite (.not (.call "is_fraction" (.cons (.nm 0) .nil))) (.cons (.rais "BadValue" (.cons (.kS [108, 101, 102, 116]) .nil)) .nil) (.nil)) (
  .cons (.ite (.not (.call "is_fraction" (.cons (.nm 1) .nil))) (.cons (.rais "BadValue" (.cons (.kS [114, 105, 103, 104, 116]) .nil)) .nil) (.nil)) .nil)⟩
def b_plus : Df := ⟨2, 2, [],
  .cons (.expr (.call "check_pair" (.cons (.nm 0) (.cons (.nm 1) .nil)))) (
  .cons (.ret (.call "lowest" (.cons (.bin .Add (.bin .Mult (.ix (.bor 0) (.kI 0)) (.ix (.bor 1) (.kI 1))) (.bin .Mult (.ix (.bor 1) (.kI 0)) (.ix (.bor 0) (.kI 1)))) (.cons (.bin .Mult (.ix (.bor 0) (.kI 1)) (.ix (.bor 1) (.kI 1))) .nil)))) .nil)⟩
def b_minus : Df := ⟨2, 2, [],
  .cons (.expr (.call "check_pair" (.cons (.nm 0) (.cons (.nm 1) .nil)))) (
  .cons (.ret (.call "lowest" (.cons (.bin .Sub (.bin .Mult (.ix (.bor 0) (.kI 0)) (.ix (.bor 1) (.kI 1))) (.bin .Mult (.ix (.bor 1) (.kI 0)) (.ix (.bor 0) (.kI 1)))) (.cons (.bin .Mult (.ix (.bor 0) (.kI 1)) (.ix (.bor 1) (.kI 1))) .nil)))) .nil)⟩
def b_times : Df := ⟨2, 2, [],
  .cons (.expr (.call "check_pair" (.cons (.nm 0) (.cons (.nm 1) .nil)))) (
  .cons (.ret (.call "lowest" (.cons (.bin .Mult (.ix (.bor 0) (.kI 0)) (.ix (.bor 1) (.kI 0))) (.cons (.bin .Mult (.ix (.bor 0) (.kI 1)) (.ix (.bor 1) (.kI 1))) .nil)))) .nil)⟩
def b_over : Df := ⟨2, 2, [],
  .cons (.expr (.call "check_pair" (.cons (.nm 0) (.cons (.nm 1) .nil)))) (
  .cons (.ite (.cmp .Eq (.ix (.bor 1) (.kI 0)) (.kI 0)) (.cons (.rais "BadValue" (.cons (.kS [114, 105, 103, 104, 116]) .nil)) .nil) (.nil)) (
  .cons (.ret (.call "lowest" (.cons (.bin .Mult (.ix (.bor 0) (.kI 0)) (.ix (.bor 1) (.kI 1))) (.cons (.bin .Mult (.ix (.bor 0) (.kI 1)) (.ix (.bor 1) (.kI 0))) .nil)))) .nil))⟩
def b_compare : Df := ⟨2, 3, [],
  .cons (.expr (.call "check_pair" (.cons (.nm 0) (.cons (.nm 1) .nil)))) (
  .cons (.asg 2 (.bin .Sub (.bin .Mult (.ix (.bor 0) (.kI 0)) (.ix (.bor 1) (.kI 1))) (.bin .Mult (.ix (.bor 1) (.kI 0)) (.ix (.bor 0) (.kI 1))))) (
  .cons (.ite (.cmp .Lt (.bor 2) (.kI 0)) (.cons (.ret (.neg (.kI 1))) .nil) (.nil)) (
  .cons (.ret (.ife (.cmp .Gt (.bor 2) (.kI 0)) (.kI 1) (.kI 0))) .nil)))⟩
def b_law_mixed : Df := ⟨2, 3, [],
  .cons (.asg 2 (.bin .Mod (.bin .Add (.bin .Add (.bin .Mult (.bin .Mod (.bu .int (.bor 0)) (.kI 2147483629)) (.kI 48271)) (.bin .Mult (.bor 1) (.kI 40692))) (.kI 69621)) (.kI 2147483647))) (
  .cons (.asg 2 (.bin .Mod (.bin .Add (.bin .Add (.bin .Add (.bin .Mult (.bor 2) (.bor 2)) (.bin .Mult (.bor 2) (.kI 16807))) (.bin .Mult (.bor 1) (.kI 69997))) (.kI 12820163)) (.kI 2147483629))) (
  .cons (.asg 2 (.bin .Mod (.bin .Add (.bin .Add (.bin .Mult (.bor 2) (.kI 48271)) (.bin .FloorDiv (.bor 2) (.kI 32768))) (.kI 7)) (.kI 2147483647))) (
  .cons (.asg 2 (.bin .Mod (.bin .Add (.bin .Mult (.bor 2) (.bor 2)) (.bor 1)) (.kI 2147483587))) (
  .cons (.ret (.bin .FloorDiv (.bor 2) (.kI 8))) .nil))))⟩
def b_law_store : Df := ⟨1, 3, [],
  .cons (.asg 1 (.bin .Add (.bu .len (.bor 0)) (.kI 1000003))) (
  .cons (.for_ [2] (.itv (.nm 0)) (.cons (.asg 1 (.bin .Mod (.bin .Add (.bin .Add (.bin .Mult (.bor 1) (.kI 48271)) (.bin .Mod (.bu .int (.bor 2)) (.kI 2147483629))) (.kI 11)) (.kI 2147483647))) .nil)) (
  .cons (.ret (.lstD (.cons (.bu .list (.bor 0)) (.cons (.kI 0) (.cons (.kI 0) (.cons (.kI 0) (.cons (.nm 1) (.cons (.kI 0) (.cons (.kI 0) .nil))))))))) .nil))⟩
def b_law_take : Df := ⟨2, 7, [],
  .cons (.ite (.cmp .Lt (.bor 1) (.kI 2)) (.cons (.ret (.kI 0)) .nil) (.nil)) (
  .cons (.setIx 0 (.kI 3) (.bin .Add (.ix (.bor 0) (.kI 3)) (.kI 1))) (
  .cons (.ite (.and (.cons (.cmp .Lt (.ix (.bor 0) (.kI 2)) (.kI 2)) (.cons (.cmp .Lt (.ix (.bor 0) (.kI 5)) (.kI 1)) (.cons (.cmp .Lt (.ix (.bor 0) (.kI 1)) (.bu .len (.ix (.bor 0) (.kI 0)))) .nil)))) (.cons (.asg 2 (.bu .int (.ix (.ix (.bor 0) (.kI 0)) (.ix (.bor 0) (.kI 1))))) (
    .cons (.setIx 0 (.kI 1) (.bin .Add (.ix (.bor 0) (.kI 1)) (.kI 1))) (
    .cons (.ite (.cmp .Lt (.bu .abs (.bor 2)) (.bin .Pow (.kI 10) (.kI 18))) (.cons (.setIx 0 (.kI 5) (.kI 2)) (
      .cons (.setIx 0 (.kI 6) (.nm 2)) .nil)) (.cons (.setIx 0 (.kI 2) (.bu .abs (.bor 2))) .nil)) .nil))) (.nil)) (
  .cons (.ite (.cmp .Gt (.ix (.bor 0) (.kI 2)) (.kI 1)) (.cons (.asg 3 (.bin .Mod (.bu .int (.ix (.bor 0) (.kI 2))) (.bor 1))) (
    .cons (.setIx 0 (.kI 2) (.bin .FloorDiv (.ix (.bor 0) (.kI 2)) (.bor 1))) (
    .cons (.ret (.nm 3)) .nil))) (.nil)) (
  .cons (.asg 4 (.ix (.bor 0) (.kI 4))) (
  .cons (.ite (.cmp .Gt (.ix (.bor 0) (.kI 5)) (.kI 0)) (.cons (.setIx 0 (.kI 5) (.bin .Sub (.ix (.bor 0) (.kI 5)) (.kI 1))) (
    .cons (.asg 4 (.ix (.bor 0) (.kI 6))) .nil)) (.nil)) (
  .cons (.asg 5 (.kI 0)) (
  .cons (.for_ [6] (.rng1 (.bin .Add (.kI 1) (.bin .FloorDiv (.bu .bitlen (.bor 1)) (.kI 24)))) (.cons (.asg 5 (.bin .Add (.bin .Mult (.bor 5) (.kI 268435456)) (.call "_law_mixed" (.cons (.nm 4) (.cons (.bin .Add (.bin .Mult (.ix (.bor 0) (.kI 3)) (.kI 64)) (.bor 6)) .nil))))) .nil)) (
  .cons (.ret (.bin .Mod (.bor 5) (.bor 1))) .nil))))))))⟩
def b_law_pick : Df := ⟨2, 2, [],
  .cons (.ret (.ix (.bor 1) (.call "_law_take" (.cons (.nm 0) (.cons (.bu .len (.bor 1)) .nil))))) .nil⟩
def b_law_gcd : Df := ⟨2, 2, [],
  .cons (.asg 0 (.bu .abs (.bor 0))) (
  .cons (.asg 1 (.bu .abs (.bor 1))) (
  .cons (.whl (.cmp .Gt (.bor 1) (.kI 0)) (.cons (.par 0 1 (.nm 1) (.bin .Mod (.bu .int (.bor 0)) (.bor 1))) .nil)) (
  .cons (.ret (.nm 0)) .nil)))⟩
def b_law_lowest : Df := ⟨2, 3, [],
  .cons (.ite (.cmp .Eq (.bor 1) (.kI 0)) (.cons (.ret (.tupD (.cons (.kI 0) (.cons (.kI 1) .nil)))) .nil) (.nil)) (
  .cons (.ite (.cmp .Lt (.bor 1) (.kI 0)) (.cons (.asg 0 (.neg (.nm 0))) (
    .cons (.asg 1 (.neg (.nm 1))) .nil)) (.nil)) (
  .cons (.asg 2 (.call "_law_gcd" (.cons (.nm 0) (.cons (.nm 1) .nil)))) (
  .cons (.ret (.tupD (.cons (.bin .FloorDiv (.bor 0) (.bor 2)) (.cons (.bin .FloorDiv (.bor 1) (.bor 2)) .nil)))) .nil)))⟩
def b_law_over : Df := ⟨2, 2, [],
  .cons (.ret (.call "_law_lowest" (.cons (.bin .Mult (.ix (.bor 0) (.kI 0)) (.ix (.bor 1) (.kI 1))) (.cons (.bin .Mult (.ix (.bor 0) (.kI 1)) (.ix (.bor 1) (.kI 0))) .nil)))) .nil⟩
def b_law_is_whole : Df := ⟨1, 1, [],
  .cons (.ret (.and (.cons (.isi (.bor 0) [.ty "int"]) (.cons (.not (.isi (.bor 0) [.ty "bool"])) .nil)))) .nil⟩
def b_law_is_frac : Df := ⟨1, 1, [],
  .cons (.ite (.or (.cons (.not (.isi (.bor 0) [.ty "tuple"])) (.cons (.cmp .NotEq (.bu .len (.bor 0)) (.kI 2)) .nil))) (.cons (.ret (.kB false)) .nil) (.nil)) (
  .cons (.ite (.or (.cons (.not (.call "_law_is_whole" (.cons (.ix (.bor 0) (.kI 0)) .nil))) (.cons (.not (.call "_law_is_whole" (.cons (.ix (.bor 0) (.kI 1)) .nil))) .nil))) (.cons (.ret (.kB false)) .nil) (.nil)) (
  .cons (.ret (.and (.cons (.cmp .Gt (.ix (.bor 0) (.kI 1)) (.kI 0)) (.cons (.cmp .Eq (.call "_law_gcd" (.cons (.ix (.bor 0) (.kI 0)) (.cons (.ix (.bor 0) (.kI 1)) .nil))) (.kI 1)) .nil)))) .nil))⟩
def b_law_same : Df := ⟨2, 3, [],
  .cons (.ite (.cmp .Is (.bor 1) (.kN)) (.cons (.ret (.cmp .Is (.bor 0) (.kN))) .nil) (.nil)) (
  .cons (.ite (.isi (.bor 1) [.ty "bool"]) (.cons (.ret (.and (.cons (.isi (.bor 0) [.ty "bool"]) (.cons (.cmp .Eq (.bor 0) (.bor 1)) .nil)))) .nil) (.nil)) (
  .cons (.ite (.isi (.bor 1) [.ty "int"]) (.cons (.ret (.and (.cons (.call "_law_is_whole" (.cons (.nm 0) .nil)) (.cons (.cmp .Eq (.bor 0) (.bor 1)) .nil)))) .nil) (.nil)) (
  .cons (.ite (.isi (.bor 1) [.ty "str"]) (.cons (.ret (.and (.cons (.isi (.bor 0) [.ty "str"]) (.cons (.cmp .Eq (.bor 0) (.bor 1)) .nil)))) .nil) (.nil)) (
  .cons (.ite (.isi (.bor 1) [.ty "dict"]) (.cons (.ite (.or (.cons (.not (.isi (.bor 0) [.ty "dict"])) (.cons (.not (.call "_law_same" (.cons (.bu .list (.bor 0)) (.cons (.bu .list (.bor 1)) .nil)))) .nil))) (.cons (.ret (.kB false)) .nil) (.nil)) (
    .cons (.ret (.call "_law_same" (.cons (.bu .list (.nope)) (.cons (.bu .list (.nope)) .nil)))) .nil)) (.nil)) (
  .cons (.ite (.and (.cons (.isi (.bor 1) [.ty "list"]) (.cons (.not (.isi (.bor 0) [.ty "list"])) .nil))) (.cons (.ret (.kB false)) .nil) (.nil)) (
  .cons (.ite (.and (.cons (.isi (.bor 1) [.ty "tuple"]) (.cons (.not (.isi (.bor 0) [.ty "tuple"])) .nil))) (.cons (.ret (.kB false)) .nil) (.nil)) (
  .cons (.ite (.or (.cons (.not (.isi (.bor 1) [.ty "list", .ty "tuple"])) (.cons (.cmp .NotEq (.bu .len (.bor 0)) (.bu .len (.bor 1))) .nil))) (.cons (.ret (.kB false)) .nil) (.nil)) (
  .cons (.for_ [2] (.rng1 (.bu .len (.bor 1))) (.cons (.ite (.not (.call "_law_same" (.cons (.ix (.bor 0) (.nm 2)) (.cons (.ix (.bor 1) (.nm 2)) .nil)))) (.cons (.ret (.kB false)) .nil) (.nil)) .nil)) (
  .cons (.ret (.kB true)) .nil)))))))))⟩
def b_law_fits : Df := ⟨1, 2, [],
  .cons (.ite (.isi (.bor 0) [.ty "list", .ty "tuple"]) (.cons (.for_ [1] (.itv (.nm 0)) (.cons (.ite (.not (.call "_law_fits" (.cons (.nm 1) .nil))) (.cons (.ret (.kB false)) .nil) (.nil)) .nil)) (
    .cons (.ret (.kB true)) .nil)) (.nil)) (
  .cons (.ret (.or (.cons (.not (.isi (.bor 0) [.ty "int"])) (.cons (.cmp .Lt (.bu .abs (.bor 0)) (.bin .Pow (.kI 10) (.kI 40))) .nil)))) .nil)⟩
def b_law_whole : Df := ⟨2, 3, [],
  .cons (.asg 2 (.call "_law_take" (.cons (.nm 0) (.cons (.kI 12) .nil)))) (
  .cons (.ite (.cmp .Lt (.bor 2) (.kI 5)) (.cons (.ret (.ix (.lstD (.cons (.kI 0) (.cons (.bb .min (.kI 1) (.nm 1)) (.cons (.neg (.bb .min (.kI 1) (.nm 1))) (.cons (.nm 1) (.cons (.neg (.nm 1)) .nil)))))) (.nm 2))) .nil) (.nil)) (
  .cons (.ret (.bin .Sub (.call "_law_take" (.cons (.nm 0) (.cons (.bin .Add (.bin .Mult (.kI 2) (.bor 1)) (.kI 1)) .nil))) (.bor 1))) .nil))⟩
def b_law_great : Df := ⟨1, 4, [],
  .cons (.asg 1 (.call "_law_take" (.cons (.nm 0) (.cons (.kI 12) .nil)))) (
  .cons (.ite (.cmp .Lt (.bor 1) (.kI 4)) (.cons (.ret (.ix (.lstD (.cons (.bin .Sub (.bin .Pow (.kI 10) (.kI 40)) (.kI 1)) (.cons (.bin .Sub (.kI 1) (.bin .Pow (.kI 10) (.kI 40))) (.cons (.bin .Pow (.kI 10) (.kI 18)) (.cons (.kI 0) .nil))))) (.nm 1))) .nil) (.nil)) (
  .cons (.asg 2 (.call "_law_take" (.cons (.nm 0) (.cons (.bin .Pow (.kI 10) (.kI 40)) .nil)))) (
  .cons (.for_ [3] (.rng1 (.call "_law_take" (.cons (.nm 0) (.cons (.kI 40) .nil)))) (.cons (.asg 2 (.bin .FloorDiv (.bor 2) (.kI 10))) .nil)) (
  .cons (.ite (.cmp .Eq (.bin .Mod (.bor 1) (.kI 2)) (.kI 1)) (.cons (.ret (.neg (.nm 2))) .nil) (.nil)) (
  .cons (.ret (.nm 2)) .nil)))))⟩
def b_law_frac : Df := ⟨1, 3, [],
  .cons (.asg 1 (.call "_law_take" (.cons (.nm 0) (.cons (.kI 12) .nil)))) (
  .cons (.ite (.cmp .Lt (.bor 1) (.kI 5)) (.cons (.ret (.ix (.lstD (.cons (.tupD (.cons (.kI 0) (.cons (.kI 1) .nil))) (.cons (.tupD (.cons (.kI 1) (.cons (.kI 1) .nil))) (.cons (.tupD (.cons (.neg (.kI 1)) (.cons (.kI 1) .nil))) (.cons (.tupD (.cons (.kI 1) (.cons (.kI 2) .nil))) (.cons (.tupD (.cons (.neg (.kI 1)) (.cons (.kI 2) .nil))) .nil)))))) (.nm 1))) .nil) (.nil)) (
  .cons (.asg 2 (.bin .Add (.kI 1) (.call "_law_take" (.cons (.nm 0) (.cons (.kI 12) .nil))))) (
  .cons (.ret (.call "_law_lowest" (.cons (.bin .Sub (.call "_law_take" (.cons (.nm 0) (.cons (.bin .Add (.bin .Mult (.kI 8) (.bor 2)) (.kI 1)) .nil))) (.bin .Mult (.kI 4) (.bor 2))) (.cons (.nm 2) .nil)))) .nil)))⟩
def b_law_frac_wide : Df := ⟨1, 2, [],
  .cons (.asg 1 (.call "_law_take" (.cons (.nm 0) (.cons (.kI 8) .nil)))) (
  .cons (.ite (.cmp .Eq (.bor 1) (.kI 0)) (.cons (.ret (.call "_law_lowest" (.cons (.call "_law_great" (.cons (.nm 0) .nil)) (.cons (.bb .max (.kI 1) (.bu .abs (.call "_law_great" (.cons (.nm 0) .nil)))) .nil)))) .nil) (.nil)) (
  .cons (.ite (.cmp .Eq (.bor 1) (.kI 1)) (.cons (.ret (.call "_law_lowest" (.cons (.call "_law_whole" (.cons (.nm 0) (.cons (.bin .Pow (.kI 10) (.kI 6)) .nil))) (.cons (.bin .Add (.kI 1) (.call "_law_take" (.cons (.nm 0) (.cons (.kI 1000) .nil)))) .nil)))) .nil) (.nil)) (
  .cons (.ret (.call "_law_frac" (.cons (.nm 0) .nil))) .nil)))⟩
def b_law_bad_frac : Df := ⟨1, 5, [],
  .cons (.ite (.cmp .Eq (.call "_law_take" (.cons (.nm 0) (.cons (.kI 3) .nil))) (.kI 0)) (.cons (.asg 1 (.call "_law_frac" (.cons (.nm 0) .nil))) (
    .cons (.asg 2 (.bin .Add (.kI 2) (.call "_law_take" (.cons (.nm 0) (.cons (.kI 3) .nil))))) (
    .cons (.asg 3 (.lstD (.cons (.lstD (.cons (.ix (.bor 1) (.kI 0)) (.cons (.ix (.bor 1) (.kI 1)) .nil))) (.cons (.tupD (.cons (.bin .Mult (.ix (.bor 1) (.kI 0)) (.bor 2)) (.cons (.bin .Mult (.ix (.bor 1) (.kI 1)) (.bor 2)) .nil))) (.cons (.tupD (.cons (.neg (.ix (.bor 1) (.kI 0))) (.cons (.neg (.ix (.bor 1) (.kI 1))) .nil))) .nil))))) (
    .cons (.ret (.call "_law_pick" (.cons (.nm 0) (.cons (.bin .Add (.bor 3) (.lstD (.cons (.tupD (.cons (.ix (.bor 1) (.kI 0)) .nil)) (.cons (.tupD (.cons (.ix (.bor 1) (.kI 0)) (.cons (.ix (.bor 1) (.kI 1)) (.cons (.kI 1) .nil)))) (.cons (.tupD (.cons (.nm 1) (.cons (.nm 1) .nil))) (.cons (.tupD (.cons (.ix (.bor 1) (.kI 0)) (.cons (.kI 0) .nil))) .nil)))))) .nil)))) .nil)))) (.nil)) (
  .cons (.asg 4 (.lstD (.cons (.tupD (.cons (.kI 2) (.cons (.kI 4) .nil))) (.cons (.tupD (.cons (.kI 0) (.cons (.kI 2) .nil))) (.cons (.tupD (.cons (.kI 0) (.cons (.kI 0) .nil))) (.cons (.tupD (.cons (.kI 1) (.cons (.kI 0) .nil))) (.cons (.tupD (.cons (.kI 1) (.cons (.neg (.kI 2)) .nil))) (.cons (.tupD (.cons (.kI 0) (.cons (.neg (.kI 1)) .nil))) (.cons (.tupD (.cons (.kB true) (.cons (.kI 1) .nil))) (.cons (.tupD (.cons (.kB false) (.cons (.kI 1) .nil))) (.cons (.tupD (.cons (.kI 1) (.cons (.kB true) .nil))) (.cons (.tupD (.cons (.kB true) (.cons (.kI 2) .nil))) (.cons (.tupD (.cons (.kI 1) (.cons (.kN) .nil))) .nil))))))))))))) (
  .cons (.asg 4 (.bin .Add (.bor 4) (.lstD (.cons (.tupD (.cons (.kS [49]) (.cons (.kI 2) .nil))) (.cons (.lstD (.cons (.kI 1) (.cons (.kI 2) .nil))) (.cons (.tupD .nil) (.cons (.tupD (.cons (.kI 1) .nil)) (.cons (.tupD (.cons (.kI 1) (.cons (.kI 2) (.cons (.kI 1) .nil)))) (.cons (.lstD (.cons (.tupD (.cons (.kI 1) (.cons (.kI 2) .nil))) .nil)) .nil))))))))) (
  .cons (.ret (.call "_law_pick" (.cons (.nm 0) (.cons (.bin .Add (.bor 4) (.lstD (.cons (.kI 0) (.cons (.kI 1) (.cons (.kB true) (.cons (.kB false) (.cons (.kN) (.cons (.kS [49, 47, 50]) (.cons (.kS []) (.cons (.dicD .nil) .nil)))))))))) .nil)))) .nil)))⟩
def b_law_asked : Ad := ⟨3, 1, [116, 111, 108, 100], "SkyError",
  .cons (.own 2 (.lstD (.nil))) (
  .cons (.ite (.isi (.bor 1) [.cl "BadValue"]) (.cons (.app 2 (.tupD (.cons (.kS [66, 97, 100, 86, 97, 108, 117, 101]) (.cons (.attr "what" (.nm 1)) .nil)))) .nil) (.nil)) (
  .cons (.ite (.isi (.bor 1) [.cl "Mismatch"]) (.cons (.app 2 (.tupD (.cons (.kS [77, 105, 115, 109, 97, 116, 99, 104]) (.cons (.kN) .nil)))) .nil) (.nil)) (
  .cons (.ite (.isi (.bor 1) [.cl "Still"]) (.cons (.app 2 (.tupD (.cons (.kS [83, 116, 105, 108, 108]) (.cons (.kN) .nil)))) .nil) (.nil)) (
  .cons (.ite (.isi (.bor 1) [.cl "Endless"]) (.cons (.app 2 (.tupD (.cons (.kS [69, 110, 100, 108, 101, 115, 115]) (.cons (.kN) .nil)))) .nil) (.nil)) (
  .cons (.ite (.isi (.bor 1) [.cl "TooMany"]) (.cons (.app 2 (.tupD (.cons (.kS [84, 111, 111, 77, 97, 110, 121]) (.cons (.attr "limit" (.nm 1)) .nil)))) .nil) (.nil)) (
  .cons (.ite (.isi (.bor 1) [.cl "NoName"]) (.cons (.app 2 (.tupD (.cons (.kS [78, 111, 78, 97, 109, 101]) (.cons (.attr "name" (.nm 1)) .nil)))) .nil) (.nil)) (
  .cons (.ite (.isi (.bor 1) [.cl "Taken"]) (.cons (.app 2 (.tupD (.cons (.kS [84, 97, 107, 101, 110]) (.cons (.attr "name" (.nm 1)) .nil)))) .nil) (.nil)) (
  .cons (.ite (.isi (.bor 1) [.cl "Locked"]) (.cons (.app 2 (.tupD (.cons (.kS [76, 111, 99, 107, 101, 100]) (.cons (.attr "loop" (.nm 1)) .nil)))) .nil) (.nil)) (
  .cons (.ite (.isi (.bor 1) [.cl "Looped"]) (.cons (.app 2 (.tupD (.cons (.kS [76, 111, 111, 112, 101, 100]) (.cons (.kN) .nil)))) .nil) (.nil)) (
  .cons (.ite (.isi (.bor 1) [.cl "Broken"]) (.cons (.app 2 (.tupD (.cons (.kS [66, 114, 111, 107, 101, 110]) (.cons (.kN) .nil)))) .nil) (.nil)) (
  .cons (.ite (.isi (.bor 1) [.cl "ReadError"]) (.cons (.app 2 (.tupD (.cons (.kS [82, 101, 97, 100, 69, 114, 114, 111, 114]) (.cons (.tupD (.cons (.attr "line" (.nm 1)) (.cons (.attr "column" (.nm 1)) (.cons (.attr "reason" (.nm 1)) .nil)))) .nil)))) .nil) (.nil)) (
  .cons (.ite (.or (.cons (.cmp .NotEq (.bu .len (.bor 2)) (.kI 1)) (.cons (.not (.isi (.bor 1) [.ty "ValueError"])) .nil))) (.cons (.ret (.tupD (.cons (.kS [109, 105, 120, 101, 100]) (.cons (.kN) .nil)))) .nil) (.nil)) (
  .cons (.ret (.ix (.bor 2) (.kI 0))) .nil)))))))))))))⟩
end RX

/-! G1: evaluation by weakest preconditions. -/
namespace RX
open PySem
def R.wp {α : Type} (r : R α) (Q : α → W → Prop) (X : String → List (String × D) → W → Prop) : Prop := match r with
  | .ok a w => Q a w
  | .ex C fs w => X C fs w
  | .bad => False
def CR.wp (r : CR) (Q : D → Bool → List D → Prop) (X : String → List (String × D) → List D → Prop) : Prop := match r with
  | .ok d fr cs => Q d fr cs
  | .ex C fs cs => X C fs cs
  | .bad => False
section
variable {α β : Type} {a : α} {w : W} {f : α → W → R β} {r r' : R α} {Q : α → W → Prop} {X : String → List (String × D) → W → Prop}
  {c c' : CR} {P : D → Bool → List D → Prop} {Y : String → List (String × D) → List D → Prop}
theorem bind_ok : (R.ok a w).bind f = f a w := Eq.trans rfl rfl
theorem bind_ex {C : String} {fs : List (String × D)} : (R.ex C fs w : R α).bind f = .ex C fs w := Eq.trans rfl rfl
theorem bind_bad : (R.bad : R α).bind f = .bad := Eq.trans rfl rfl
theorem wp_ok : (R.ok a w).wp Q X = Q a w := Eq.trans rfl rfl
theorem wp_ex {C : String} {fs : List (String × D)} : (R.ex C fs w : R α).wp Q X = X C fs w := Eq.trans rfl rfl
theorem wp_bad : (R.bad : R α).wp Q X = False := Eq.trans rfl rfl
theorem wp_bind {Q : β → W → Prop} : (r.bind f).wp Q X = r.wp (fun a w => (f a w).wp Q X) X := by cases r <;> rfl
theorem cwp_ok {d : D} {fr : Bool} {cs : List D} : (CR.ok d fr cs).wp P Y = P d fr cs := Eq.trans rfl rfl
theorem cwp_ex {C : String} {fs : List (String × D)} {cs : List D} : (CR.ex C fs cs).wp P Y = Y C fs cs := Eq.trans rfl rfl
theorem cwp_bad : CR.bad.wp P Y = False := Eq.trans rfl rfl
theorem wp_lift {Q : D → W → Prop} : (lift c w).wp Q X = c.wp (fun d _ cs => Q d { w with cs := cs }) (fun C fs cs => X C fs { w with cs := cs }) := by cases c <;> rfl
theorem wp_liftN {Q : D → W → Prop} : (liftN c w).wp Q X = c.wp (fun d _ cs => Q d { w with cs := cs }) (fun _ _ _ => False) := by cases c <;> rfl
theorem cwp_lam {r : R D} : (lamCR r).wp P Y = r.wp (fun d w => P d false w.cs) (fun C fs w => Y C fs w.cs) := by cases r <;> rfl
/-- what a statement's end leads to -/
def flK (n : Nat) (P : D → Bool → List D → Prop) (Y : String → List (String × D) → List D → Prop) (f : Flow) (w : W) : Prop := match f with
  | .ret d fr => (fin n d fr w.cs).wp P Y
  | .next => (fin n .non false w.cs).wp P Y
  | _ => False
theorem flK_ret {n : Nat} {d : D} {fr : Bool} : flK n P Y (.ret d fr) w = (fin n d fr w.cs).wp P Y := Eq.trans rfl rfl
theorem flK_next {n : Nat} : flK n P Y .next w = (fin n .non false w.cs).wp P Y := Eq.trans rfl rfl
def exK (n : Nat) (Y : String → List (String × D) → List D → Prop) (C : String) (fs : List (String × D)) (w : W) : Prop := w.cs.length = n ∧ Y C fs w.cs
theorem cwp_ends {n : Nat} {r : R Flow} : (ends n r).wp P Y = r.wp (flK n P Y) (exK n Y) := by
  cases r with
  | ok f w => cases f <;> rfl
  | ex C fs w =>
    unfold ends
    show (CR.wp (if w.cs.length = n then _ else _) P Y) = exK n Y C fs w
    unfold exK
    split
    · rename_i h
      simp [h, CR.wp]
    · rename_i h
      simp [h, CR.wp]
  | bad => rfl
theorem fin_eq {n : Nat} {d : D} {fr : Bool} {cs : List D} (h : cs.length = n) : fin n d fr cs = .ok d fr cs := by
  unfold fin
  rw [if_pos h]
theorem fin_eq' {d : D} {fr : Bool} {s s' : D} {r : List D} : fin (s :: r).length d fr (s' :: r) = .ok d fr (s' :: r) := fin_eq rfl
theorem fin_same {d : D} {fr : Bool} {r : List D} : fin r.length d fr r = .ok d fr r := fin_eq rfl
theorem exK_eq' {Y : String → List (String × D) → List D → Prop} {C : String} {fs : List (String × D)} {sl : List Sl} {s s' : D} {r : List D} : exK (s :: r).length Y C fs ⟨sl, s' :: r⟩ = Y C fs (s' :: r) := by
  unfold exK
  simp
theorem exK_same {Y : String → List (String × D) → List D → Prop} {C : String} {fs : List (String × D)} {sl : List Sl} {r : List D} : exK r.length Y C fs ⟨sl, r⟩ = Y C fs r := by
  unfold exK
  simp
/-- behind a statement -/
noncomputable def seqK (fl : Flds) (c : Ct) (b : S) (f : Flow) (w1 : W) : R Flow := match f with
  | .next => evS fl c b w1
  | g => .ok g w1
theorem ev_cons {fl : Flds} {c : Ct} {a b : S} {w : W} : evS fl c (.cons a b) w = (evS fl c a w).bind (seqK fl c b) := by
  rw [evS]
  congr 1
theorem seqK_next {fl : Flds} {c : Ct} {b : S} {w : W} : seqK fl c b .next w = evS fl c b w := Eq.trans rfl rfl
theorem seqK_ret {fl : Flds} {c : Ct} {b : S} {d : D} {fr : Bool} {w : W} : seqK fl c b (.ret d fr) w = .ok (.ret d fr) w := Eq.trans rfl rfl
theorem seqK_cnt {fl : Flds} {c : Ct} {b : S} {w : W} : seqK fl c b .cnt w = .ok .cnt w := Eq.trans rfl rfl
theorem seqK_brk {fl : Flds} {c : Ct} {b : S} {w : W} : seqK fl c b .brk w = .ok .brk w := Eq.trans rfl rfl
theorem wp_mono {Q' : α → W → Prop} {X' : String → List (String × D) → W → Prop} (h : r.wp Q X) (hq : ∀ a w, Q a w → Q' a w) (hx : ∀ C fs w, X C fs w → X' C fs w) : r.wp Q' X' := by
  cases r with
  | ok a w => exact hq _ _ h
  | ex C fs w => exact hx _ _ _ h
  | bad => exact h
theorem cwp_mono {P' : D → Bool → List D → Prop} {Y' : String → List (String × D) → List D → Prop} (h : c.wp P Y) (hq : ∀ a f w, P a f w → P' a f w) (hx : ∀ C fs w, Y C fs w → Y' C fs w) : c.wp P' Y' := by
  cases c with
  | ok a f w => exact hq _ _ _ h
  | ex C fs w => exact hx _ _ _ h
  | bad => exact h
theorem cwp_get (h : c.wp P fun _ _ _ => False) : ∃ d fr cs, c = .ok d fr cs ∧ P d fr cs := by
  cases c with
  | ok d fr cs => exact ⟨_, _, _, rfl, h⟩
  | ex C fs w => exact h.elim
  | bad => exact h.elim
end
theorem call_of {t : Tx} {f : String} {d : Df} {ds cs : List D} {k : Nat} (hG : t.G f = some d) (hd : d.dfl = []) (hn : ds.length = d.np) : callN t (k + 3) f ds cs = ends cs.length (evS t.fl (ctOf t (lev t (k + 2))) d.body ⟨ds.map Sl.val ++ List.replicate (d.ns - d.np) .no, cs⟩) := by
  rw [callN_succ]
  unfold stepF
  rw [hG]
  dsimp only
  have : fillD d ds = some ds := by
    unfold fillD
    rw [hd, hn, if_pos ⟨Nat.le_refl _, by simp⟩]
    simp
  rw [this]
  rfl
theorem ct_call (t : Tx) (k : Nat) : (ctOf t (lev t k)).call = callN t k := Eq.trans rfl rfl
theorem ct_lcall (t : Tx) (k : Nat) : (ctOf t (lev t (k + 2))).lcall = callN t k := Eq.trans rfl rfl
theorem ct_ask (t : Tx) (k : Nat) : (ctOf t (lev t k)).ask = askOf t.A t.fl := Eq.trans rfl rfl
theorem lvl {k : Nat} (h : 3 ≤ k) : ∃ j, k = j + 3 := ⟨k - 3, by omega⟩
/-- a test -/
def tst (c : Ct) (m : E) (w : W) : R Bool := (evE c m w).bind fun x w1 => tr x w1
section
variable {fl : Flds} {c : Ct} {m : E} {b : S} {w w1 w2 : W}
theorem whl_eq : evS fl c (.whl m b) w = whlK (fun w => tst c m w) (fun w => evS fl c b w) w := whlR_eq _ _ _
theorem whl_end (h : tst c m w = .ok false w1) : evS fl c (.whl m b) w = .ok .next w1 := by
  rw [whl_eq]
  unfold whlK
  dsimp only
  rw [h]
theorem whl_next (h : tst c m w = .ok true w1) (h2 : evS fl c b w1 = .ok .next w2) : evS fl c (.whl m b) w = evS fl c (.whl m b) w2 := by
  rw [whl_eq]
  unfold whlK
  dsimp only
  rw [h]
  dsimp only
  rw [h2]
  rfl
theorem whl_ret {d : D} {fr : Bool} (h : tst c m w = .ok true w1) (h2 : evS fl c b w1 = .ok (.ret d fr) w2) : evS fl c (.whl m b) w = .ok (.ret d fr) w2 := by
  rw [whl_eq]
  unfold whlK
  dsimp only
  rw [h]
  dsimp only
  rw [h2]
end
/-! ### for -/
section
variable {f : D → W → R Flow} {Q : Flow → W → Prop} {X : String → List (String × D) → W → Prop}
/-- a for by an invariant of what is left -/
theorem forL_wp (I : List D → W → Prop) (step : ∀ x r w, I (x :: r) w → (f x w).wp (fun fl w1 => match fl with
    | .next => I r w1
    | .cnt => I r w1
    | .brk => Q .next w1
    | .ret d b => Q (.ret d b) w1) X) (fin : ∀ w, I [] w → Q .next w) : ∀ xs w, I xs w → (forL f xs w).wp Q X
  | [], w, h => fin w h
  | x :: r, w, h => by
    have s := step x r w h
    unfold forL
    rw [wp_bind]
    refine wp_mono s (fun fl w1 h1 => ?_) (fun _ _ _ h => h)
    cases fl with
    | next => exact forL_wp I step fin r w1 h1
    | cnt => exact forL_wp I step fin r w1 h1
    | brk => exact h1
    | ret d b => exact h1
theorem forL_nil {w : W} : forL f [] w = .ok .next w := Eq.trans rfl rfl
def forK (f : D → W → R Flow) (r : List D) (fl : Flow) (w1 : W) : R Flow := match fl with
  | .next => forL f r w1
  | .cnt => forL f r w1
  | .brk => .ok .next w1
  | .ret d b => .ok (.ret d b) w1
theorem forL_cons {x : D} {r : List D} {w : W} : forL f (x :: r) w = (f x w).bind (forK f r) := by
  conv => lhs; unfold forL
  congr 1
theorem forK_next {r : List D} {w : W} : forK f r .next w = forL f r w := Eq.trans rfl rfl
theorem forK_cnt {r : List D} {w : W} : forK f r .cnt w = forL f r w := Eq.trans rfl rfl
theorem forK_brk {r : List D} {w : W} : forK f r .brk w = .ok .next w := Eq.trans rfl rfl
theorem forK_ret {r : List D} {d : D} {b : Bool} {w : W} : forK f r (.ret d b) w = .ok (.ret d b) w := Eq.trans rfl rfl
end
end RX

/-! G0: the evaluator, equation by equation (printed by gen0.py). -/
namespace RX
open PySem
theorem q_dr_non {w : W}  : dr w .non = .non := Eq.trans rfl rfl
theorem q_dr_bl {w : W} {b : Bool} : dr w (.bl b) = (.bl b) := Eq.trans rfl rfl
theorem q_dr_int {w : W} {i : Int} : dr w (.int i) = (.int i) := Eq.trans rfl rfl
theorem q_dr_str {w : W} {s : List Nat} : dr w (.str s) = (.str s) := Eq.trans rfl rfl
theorem q_dr_tup {w : W} {xs : List D} : dr w (.tup xs) = (.tup xs) := Eq.trans rfl rfl
theorem q_dr_lst {w : W} {xs : List D} : dr w (.lst xs) = (.lst xs) := Eq.trans rfl rfl
theorem q_dr_frz {w : W} {xs : List D} : dr w (.frz xs) = (.frz xs) := Eq.trans rfl rfl
theorem q_dr_dic {w : W} {kv : List (Ky × D)} : dr w (.dic kv) = (.dic kv) := Eq.trans rfl rfl
theorem q_dr_obj {w : W} {C : String} {fs : List (String × D)} : dr w (.obj C fs) = (.obj C fs) := Eq.trans rfl rfl
theorem q_dr_ref {sl : List Sl} {cs : List D} {i : Nat} : dr ⟨sl, cs⟩ (.ref i) = (cs[i]?).getD (.ref i) := Eq.trans rfl rfl
theorem q_dr_fn {w : W} {f : String} : dr w (.fn f) = (.fn f) := Eq.trans rfl rfl
theorem q_dr_exc {w : W} {C : String} {fs : List (String × D)} : dr w (.exc C fs) = (.exc C fs) := Eq.trans rfl rfl
theorem q_opt_some {α : Type} {a : α} {w : W} : opt (some a) w = .ok a w := Eq.trans rfl rfl
theorem q_opt_none {α : Type} {w : W} : opt (none : Option α) w = .bad := Eq.trans rfl rfl
theorem q_tr {d : D} {w : W} : tr d w = opt (truth (dr w d)) w := Eq.trans rfl rfl
theorem q_truth_non  : truth .non = some false := Eq.trans rfl rfl
theorem q_truth_bl {b : Bool} : truth (.bl b) = some b := Eq.trans rfl rfl
theorem q_truth_int {i : Int} : truth (.int i) = some (i != 0) := Eq.trans rfl rfl
theorem q_truth_str {s : List Nat} : truth (.str s) = if lineOk s.length then some (!s.isEmpty) else none := Eq.trans rfl rfl
theorem q_truth_tup {xs : List D} : truth (.tup xs) = some (!xs.isEmpty) := Eq.trans rfl rfl
theorem q_truth_lst {xs : List D} : truth (.lst xs) = some (!xs.isEmpty) := Eq.trans rfl rfl
theorem q_truth_dic {kv : List (Ky × D)} : truth (.dic kv) = some (!kv.isEmpty) := Eq.trans rfl rfl
theorem q_cmp_Lt {i j : Int} : cmpop .Lt (.int i) (.int j) = some (decide (i < j)) := Eq.trans rfl rfl
theorem q_cmp_LtE {i j : Int} : cmpop .LtE (.int i) (.int j) = some (decide (i ≤ j)) := Eq.trans rfl rfl
theorem q_cmp_Gt {i j : Int} : cmpop .Gt (.int i) (.int j) = some (decide (j < i)) := Eq.trans rfl rfl
theorem q_cmp_GtE {i j : Int} : cmpop .GtE (.int i) (.int j) = some (decide (j ≤ i)) := Eq.trans rfl rfl
theorem q_cmp_Eq {x y : D} : cmpop .Eq x y = eqOp x y := Eq.trans rfl rfl
theorem q_cmp_Ne {x y : D} : cmpop .NotEq x y = (eqOp x y).map (!·) := Eq.trans rfl rfl
theorem q_eq_int {i j : Int} : eqOp (.int i) (.int j) = some (decide (i = j)) := Eq.trans rfl rfl
theorem q_eq_str {i j : List Nat} : eqOp (.str i) (.str j) = some (decide (i = j)) := Eq.trans rfl rfl
theorem q_eq_bl {i j : Bool} : eqOp (.bl i) (.bl j) = some (decide (i = j)) := Eq.trans rfl rfl
theorem q_Is_nn  : cmpop .Is .non .non = some true := Eq.trans rfl rfl
theorem q_Is_bb {x y : Bool} : cmpop .Is (.bl x) (.bl y) = some (decide (x = y)) := Eq.trans rfl rfl
theorem q_Is_bl {b : Bool} : cmpop .Is (.bl b) .non = some false := Eq.trans rfl rfl
theorem q_Is_int {i : Int} : cmpop .Is (.int i) .non = some false := Eq.trans rfl rfl
theorem q_Is_str {s : List Nat} : cmpop .Is (.str s) .non = some false := Eq.trans rfl rfl
theorem q_Is_tup {xs : List D} : cmpop .Is (.tup xs) .non = some false := Eq.trans rfl rfl
theorem q_Is_lst {xs : List D} : cmpop .Is (.lst xs) .non = some false := Eq.trans rfl rfl
theorem q_Is_frz {xs : List D} : cmpop .Is (.frz xs) .non = some false := Eq.trans rfl rfl
theorem q_Is_dic {kv : List (Ky × D)} : cmpop .Is (.dic kv) .non = some false := Eq.trans rfl rfl
theorem q_Is_obj {C : String} {fs : List (String × D)} : cmpop .Is (.obj C fs) .non = some false := Eq.trans rfl rfl
theorem q_Is_ref {i : Nat} : cmpop .Is (.ref i) .non = some false := Eq.trans rfl rfl
theorem q_Is_fn {f : String} : cmpop .Is (.fn f) .non = some false := Eq.trans rfl rfl
theorem q_IsNot_nn  : cmpop .IsNot .non .non = some false := Eq.trans rfl rfl
theorem q_IsNot_bb {x y : Bool} : cmpop .IsNot (.bl x) (.bl y) = some (!decide (x = y)) := Eq.trans rfl rfl
theorem q_IsNot_bl {b : Bool} : cmpop .IsNot (.bl b) .non = some true := Eq.trans rfl rfl
theorem q_IsNot_int {i : Int} : cmpop .IsNot (.int i) .non = some true := Eq.trans rfl rfl
theorem q_IsNot_str {s : List Nat} : cmpop .IsNot (.str s) .non = some true := Eq.trans rfl rfl
theorem q_IsNot_tup {xs : List D} : cmpop .IsNot (.tup xs) .non = some true := Eq.trans rfl rfl
theorem q_IsNot_lst {xs : List D} : cmpop .IsNot (.lst xs) .non = some true := Eq.trans rfl rfl
theorem q_IsNot_frz {xs : List D} : cmpop .IsNot (.frz xs) .non = some true := Eq.trans rfl rfl
theorem q_IsNot_dic {kv : List (Ky × D)} : cmpop .IsNot (.dic kv) .non = some true := Eq.trans rfl rfl
theorem q_IsNot_obj {C : String} {fs : List (String × D)} : cmpop .IsNot (.obj C fs) .non = some true := Eq.trans rfl rfl
theorem q_IsNot_ref {i : Nat} : cmpop .IsNot (.ref i) .non = some true := Eq.trans rfl rfl
theorem q_IsNot_fn {f : String} : cmpop .IsNot (.fn f) .non = some true := Eq.trans rfl rfl
theorem q_bin_Add {i j : Int} : binop .Add (.int i) (.int j) = some (.int (i + j)) := Eq.trans rfl rfl
theorem q_bin_Sub {i j : Int} : binop .Sub (.int i) (.int j) = some (.int (i - j)) := Eq.trans rfl rfl
theorem q_bin_Mult {i j : Int} : binop .Mult (.int i) (.int j) = if mulOk i j then some (.int (i * j)) else none := Eq.trans rfl rfl
theorem q_bin_FloorDiv {i j : Int} : binop .FloorDiv (.int i) (.int j) = if divOk i j then some (.int (i.fdiv j)) else none := Eq.trans rfl rfl
theorem q_bin_Mod {i j : Int} : binop .Mod (.int i) (.int j) = if j ≠ 0 then some (.int (i.fmod j)) else none := Eq.trans rfl rfl
theorem q_bin_Pow {i j : Int} : binop .Pow (.int i) (.int j) = if powOk i j then some (.int (i ^ j.toNat)) else none := Eq.trans rfl rfl
theorem q_bin_Adds {x y : List Nat} : binop .Add (.str x) (.str y) = if lineOk (x.length + y.length) then some (.str (x ++ y)) else none := Eq.trans rfl rfl
theorem q_bin_Addl {x y : List D} : binop .Add (.lst x) (.lst y) = if lineOk (x.length + y.length) then some (.lst (x ++ y)) else none := Eq.trans rfl rfl
theorem q_b1_len_str {s : List Nat} : b1 .len (.str s) = if lineOk s.length then some (.int s.length) else none := Eq.trans rfl rfl
theorem q_b1_len_lst {xs : List D} : b1 .len (.lst xs) = some (.int xs.length) := Eq.trans rfl rfl
theorem q_b1_len_frz {xs : List D} : b1 .len (.frz xs) = some (.int xs.length) := Eq.trans rfl rfl
theorem q_b1_len_tup {xs : List D} : b1 .len (.tup xs) = some (.int xs.length) := Eq.trans rfl rfl
theorem q_b1_abs_int {i : Int} : b1 .abs (.int i) = some (.int (if i < 0 then -i else i)) := Eq.trans rfl rfl
theorem q_b1_int_int {i : Int} : b1 .int (.int i) = some (.int i) := Eq.trans rfl rfl
theorem q_b1_int_bl {b : Bool} : b1 .int (.bl b) = some (.int (if b then 1 else 0)) := Eq.trans rfl rfl
theorem q_b1_bool_int {i : Int} : b1 .bool (.int i) = some (.bl (i != 0)) := Eq.trans rfl rfl
theorem q_b1_bool_bl {b : Bool} : b1 .bool (.bl b) = some (.bl b) := Eq.trans rfl rfl
theorem q_b1_list_lst {xs : List D} : b1 .list (.lst xs) = some (.lst xs) := Eq.trans rfl rfl
theorem q_b1_list_frz {xs : List D} : b1 .list (.frz xs) = some (.lst xs) := Eq.trans rfl rfl
theorem q_b1_list_tup {xs : List D} : b1 .list (.tup xs) = some (.lst xs) := Eq.trans rfl rfl
theorem q_b1_list_dic {kv : List (Ky × D)} : b1 .list (.dic kv) = some (.lst (kv.map fun p => keyD p.1)) := Eq.trans rfl rfl
theorem q_b1_lvals_dic {kv : List (Ky × D)} : b1 .lvals (.dic kv) = some (.lst (kv.map fun p => p.2)) := Eq.trans rfl rfl
theorem q_b1_tuple_lst {xs : List D} : b1 .tuple (.lst xs) = some (.tup xs) := Eq.trans rfl rfl
theorem q_b1_tuple_tup {xs : List D} : b1 .tuple (.tup xs) = some (.tup xs) := Eq.trans rfl rfl
theorem q_b1_bitlen_int {i : Int} : b1 .bitlen (.int i) = some (.int (Builtin.Int.intBits i)) := Eq.trans rfl rfl
theorem q_b1_upper_str {s : List Nat} : b1 .upper (.str s) = if decide (s.length ≤ 5592405) then some (.str (upperC s)) else none := Eq.trans rfl rfl
theorem q_b1_rev_lst {xs : List D} : b1 .rev (.lst xs) = some (.lst xs.reverse) := Eq.trans rfl rfl
theorem q_b1_all_lst {xs : List D} : b1 .all (.lst xs) = (boolsOf xs).map fun bs => .bl (bs.all id) := Eq.trans rfl rfl
theorem q_b1_any_lst {xs : List D} : b1 .any (.lst xs) = (boolsOf xs).map fun bs => .bl (bs.any id) := Eq.trans rfl rfl
theorem q_b1_sum_lst {xs : List D} : b1 .sum (.lst xs) = (intsOf xs).map fun ns => .int ns.sum := Eq.trans rfl rfl
theorem q_b2_min {i j : Int} : b2 .min (.int i) (.int j) = some (.int (if j < i then j else i)) := Eq.trans rfl rfl
theorem q_b2_max {i j : Int} : b2 .max (.int i) (.int j) = some (.int (if j > i then j else i)) := Eq.trans rfl rfl
theorem q_b2_join {s : List Nat} {xs : List D} : b2 .join (.str s) (.lst xs) = (textsOf xs).bind fun ts => if lineOk ((ts.map (fun t => t.length + s.length)).sum) then some (.str (joinT s ts)) else none := Eq.trans rfl rfl
theorem q_b2_divmod {i j : Int} : b2 .divmod (.int i) (.int j) = if decide (0 < j) && divOk i j then some (.tup [.int (i.fdiv j), .int (i.fmod j)]) else none := Eq.trans rfl rfl
theorem q_item_lst {xs : List D} {i : Int} : itemOf (.lst xs) (.int i) = (ixOf xs.length i).bind fun j => xs[j]? := Eq.trans rfl rfl
theorem q_item_tup {xs : List D} {i : Int} : itemOf (.tup xs) (.int i) = (ixOf xs.length i).bind fun j => xs[j]? := Eq.trans rfl rfl
theorem q_item_str {x : List Nat} {i : Int} : itemOf (.str x) (.int i) = if lineOk x.length then (ixOf x.length i).bind fun j => (x[j]?).map fun c => .str [c] else none := Eq.trans rfl rfl
theorem q_item_dici {kvs : List (Ky × D)} {i : Int} : itemOf (.dic kvs) (.int i) = valK kvs (.inl i) := Eq.trans rfl rfl
theorem q_item_dics {kvs : List (Ky × D)} {i : List Nat} : itemOf (.dic kvs) (.str i) = valK kvs (.inr i) := Eq.trans rfl rfl
theorem q_set_lst {xs : List D} {i : Int} {d : D} : setOf (.lst xs) (.int i) d = (ixOf xs.length i).map fun j => .lst (xs.set j d) := Eq.trans rfl rfl
theorem q_set_dic {kvs : List (Ky × D)} {k d : D} : setOf (.dic kvs) k d = (keyOf k).bind fun k => if lineOk (kvs.length + 1) then some (.dic (putK kvs k d)) else none := Eq.trans rfl rfl
theorem q_key_i {i : Int} : keyOf (.int i) = some (.inl i) := Eq.trans rfl rfl
theorem q_key_s {i : List Nat} : keyOf (.str i) = some (.inr i) := Eq.trans rfl rfl
theorem q_items_lst {xs : List D} : itemsOf (.lst xs) = some xs := Eq.trans rfl rfl
theorem q_items_frz {xs : List D} : itemsOf (.frz xs) = some xs := Eq.trans rfl rfl
theorem q_items_tup {xs : List D} : itemsOf (.tup xs) = some xs := Eq.trans rfl rfl
theorem q_isi_cl_int {c : String} {i : Int} : isInst (.int i) (.cl c) = some false := Eq.trans rfl rfl
theorem q_isi_cl_bl {c : String} {b : Bool} : isInst (.bl b) (.cl c) = some false := Eq.trans rfl rfl
theorem q_isi_cl_str {c : String} {s : List Nat} : isInst (.str s) (.cl c) = some false := Eq.trans rfl rfl
theorem q_isi_cl_tup {c : String} {xs : List D} : isInst (.tup xs) (.cl c) = some false := Eq.trans rfl rfl
theorem q_isi_cl_lst {c : String} {xs : List D} : isInst (.lst xs) (.cl c) = some false := Eq.trans rfl rfl
theorem q_isi_cl_dic {c : String} {kv : List (Ky × D)} : isInst (.dic kv) (.cl c) = some false := Eq.trans rfl rfl
theorem q_isi_cl_non {c : String}  : isInst .non (.cl c) = some false := Eq.trans rfl rfl
theorem q_isi_ty_int {n : String} {i : Int} : isInst (.int i) (.ty n) = some (decide (n = "int")) := Eq.trans rfl rfl
theorem q_isi_ty_bl {n : String} {b : Bool} : isInst (.bl b) (.ty n) = some (decide (n = "bool") || decide (n = "int")) := Eq.trans rfl rfl
theorem q_isi_ty_str {n : String} {s : List Nat} : isInst (.str s) (.ty n) = some (decide (n = "str")) := Eq.trans rfl rfl
theorem q_isi_ty_tup {n : String} {xs : List D} : isInst (.tup xs) (.ty n) = some (decide (n = "tuple")) := Eq.trans rfl rfl
theorem q_isi_ty_lst {n : String} {xs : List D} : isInst (.lst xs) (.ty n) = some (decide (n = "list")) := Eq.trans rfl rfl
theorem q_isi_ty_dic {n : String} {kv : List (Ky × D)} : isInst (.dic kv) (.ty n) = some (decide (n = "dict")) := Eq.trans rfl rfl
theorem q_isi_ty_non {n : String}  : isInst .non (.ty n) = some (false) := Eq.trans rfl rfl
theorem q_isi_exc {c C : String} {fs : List (String × D)} : isInst (.exc C fs) (.cl c) = some (isExc C c) := Eq.trans rfl rfl
theorem q_isi_excv {C : String} {fs : List (String × D)} : isInst (.exc C fs) (.ty "ValueError") = some true := Eq.trans rfl rfl
theorem q_isis_1 {d : D} {c : Cn} : isInsts d [c] = isInst d c := Eq.trans rfl rfl
theorem q_isis_2 {d : D} {a b : Cn} {r : List Cn} : isInsts d (a :: b :: r) = if plainD d then isLoop d (a :: b :: r) else none := Eq.trans rfl rfl
theorem q_isl_0 {d : D} : isLoop d [] = some false := Eq.trans rfl rfl
def orO : Option Bool → Option Bool → Option Bool
  | some a, some b => some (a || b)
  | _, _ => none
theorem q_isl_1 {d : D} {c : Cn} {r : List Cn} : isLoop d (c :: r) = orO (isInst d c) (isLoop d r) := Eq.trans rfl rfl
theorem q_orO {a b : Bool} : orO (some a) (some b) = some (a || b) := Eq.trans rfl rfl
theorem q_plain_int {i : Int} : plainD (.int i) = true := Eq.trans rfl rfl
theorem q_plain_bl {b : Bool} : plainD (.bl b) = true := Eq.trans rfl rfl
theorem q_plain_str {s : List Nat} : plainD (.str s) = true := Eq.trans rfl rfl
theorem q_plain_tup {xs : List D} : plainD (.tup xs) = true := Eq.trans rfl rfl
theorem q_plain_lst {xs : List D} : plainD (.lst xs) = true := Eq.trans rfl rfl
theorem q_plain_dic {kv : List (Ky × D)} : plainD (.dic kv) = true := Eq.trans rfl rfl
theorem q_plain_non  : plainD .non = true := Eq.trans rfl rfl
def rdBo (w : W) : Option Sl → R D
  | some (.val d) => .ok d w
  | some (.own d) => .ok d w
  | some (.len d) => .ok d w
  | _ => .bad
def rdSo (w : W) (i : Nat) : Option Sl → R D
  | some (.val d) => .ok d w
  | some (.own d) => .ok d { w with sl := w.sl.set i (.val d) }
  | _ => .bad
theorem q_rdB {sl : List Sl} {cs : List D} {i : Nat} : rdB ⟨sl, cs⟩ i = rdBo ⟨sl, cs⟩ (sl[i]?) := Eq.trans rfl rfl
theorem q_rdS {sl : List Sl} {cs : List D} {i : Nat} : rdS ⟨sl, cs⟩ i = rdSo ⟨sl, cs⟩ i (sl[i]?) := Eq.trans rfl rfl
theorem q_rdBo_val {w : W} {d : D} : rdBo w (some (.val d)) = .ok d w := Eq.trans rfl rfl
theorem q_rdBo_own {w : W} {d : D} : rdBo w (some (.own d)) = .ok d w := Eq.trans rfl rfl
theorem q_rdBo_len {w : W} {d : D} : rdBo w (some (.len d)) = .ok d w := Eq.trans rfl rfl
theorem q_rdSo_val {w : W} {i : Nat} {d : D} : rdSo w i (some (.val d)) = .ok d w := Eq.trans rfl rfl
theorem q_rdSo_own {w : W} {i : Nat} {d : D} : rdSo w i (some (.own d)) = .ok d { w with sl := w.sl.set i (.val d) } := Eq.trans rfl rfl
theorem q_setSl {sl : List Sl} {cs : List D} {i : Nat} {s : Sl} : setSl ⟨sl, cs⟩ i s = ⟨sl.set i s, cs⟩ := Eq.trans rfl rfl
theorem q_setT1 {i : Nat} {x : D} {w : W} : setT [i] x w = .ok .next (setSl w i (.val x)) := Eq.trans rfl rfl
theorem q_setT2 {i j : Nat} {r : List Nat} {ds : List D} {w : W} : setT (i :: j :: r) (.tup ds) w = setSls (i :: j :: r) ds w := Eq.trans rfl rfl
theorem q_setSls0 {w : W} : setSls [] [] w = .ok .next w := Eq.trans rfl rfl
theorem q_setSls1 {i : Nat} {is : List Nat} {d : D} {ds : List D} {w : W} : setSls (i :: is) (d :: ds) w = setSls is ds (setSl w i (.val d)) := Eq.trans rfl rfl
def mod1 (sl : List Sl) (cs : List D) (i : Nat) : Option D → R Flow
  | some e => .ok .next ⟨sl.set i (.own e), cs⟩
  | none => .bad
def mod2 (sl : List Sl) (cs : List D) (j : Nat) : Option D → R Flow
  | some e => .ok .next ⟨sl, cs.set j e⟩
  | none => .bad
theorem q_mod1 {sl : List Sl} {cs : List D} {i : Nat} {e : D} : mod1 sl cs i (some e) = .ok .next ⟨sl.set i (.own e), cs⟩ := Eq.trans rfl rfl
theorem q_mod2 {sl : List Sl} {cs : List D} {i : Nat} {e : D} : mod2 sl cs i (some e) = .ok .next ⟨sl, cs.set i e⟩ := Eq.trans rfl rfl
def modSo (sl : List Sl) (cs : List D) (i : Nat) (f : D → Option D) : Option Sl → R Flow
  | some (.own d) => mod1 sl cs i (f d)
  | some (.val (.ref j)) => mod2 sl cs j ((cs[j]?).bind f)
  | _ => .bad
theorem q_modS {sl : List Sl} {cs : List D} {i : Nat} {f : D → Option D} : modS ⟨sl, cs⟩ i f = modSo sl cs i f (sl[i]?) := by
  unfold modS
  dsimp only
  cases sl[i]? with
  | none => rfl
  | some s => cases s with
    | own d => dsimp only [modSo]; cases f d <;> rfl
    | val d => cases d with
      | ref j => dsimp only [modSo]; cases (cs[j]?).bind f <;> rfl
      | _ => rfl
    | _ => rfl
theorem q_modSo_own {sl : List Sl} {cs : List D} {i : Nat} {f : D → Option D} {d : D} : modSo sl cs i f (some (.own d)) = mod1 sl cs i (f d) := Eq.trans rfl rfl
theorem q_modSo_ref {sl : List Sl} {cs : List D} {i j : Nat} {f : D → Option D} : modSo sl cs i f (some (.val (.ref j))) = mod2 sl cs j ((cs[j]?).bind f) := Eq.trans rfl rfl
def isLl : Option D → Bool
  | some (.lst _) => true
  | _ => false
def isLo (cs : List D) : Option Sl → Bool
  | some (.own (.lst _)) => true
  | some (.val (.ref j)) => isLl (cs[j]?)
  | _ => false
theorem q_isL {sl : List Sl} {cs : List D} {i : Nat} : isL ⟨sl, cs⟩ i = isLo cs (sl[i]?) := by
  unfold isL
  dsimp only
  cases sl[i]? with
  | none => rfl
  | some s => cases s with
    | own d => cases d <;> rfl
    | val d => cases d with
      | ref j => dsimp only [isLo]; cases cs[j]? with
        | none => rfl
        | some e => cases e <;> rfl
      | _ => rfl
    | _ => rfl
theorem q_isLo_own {cs xs : List D} : isLo cs (some (.own (.lst xs))) = true := Eq.trans rfl rfl
theorem q_isLo_ref {cs : List D} {j : Nat} : isLo cs (some (.val (.ref j))) = isLl (cs[j]?) := Eq.trans rfl rfl
theorem q_isLl {xs : List D} : isLl (some (.lst xs)) = true := Eq.trans rfl rfl
theorem q_app {d : D} {xs : List D} : appOf d (.lst xs) = if lineOk (xs.length + 1) then some (.lst (xs ++ [d])) else none := Eq.trans rfl rfl
theorem q_asgSl_lst {xs : List D} : asgSl (.lst xs) true = .own (.lst xs) := Eq.trans rfl rfl
theorem q_asgSl_dic {kv : List (Ky × D)} : asgSl (.dic kv) true = .own (.dic kv) := Eq.trans rfl rfl
theorem q_asgSlf_non  : asgSl .non false = .val .non := Eq.trans rfl rfl
theorem q_asgSlf_bl {b : Bool} : asgSl (.bl b) false = .val (.bl b) := Eq.trans rfl rfl
theorem q_asgSlf_int {i : Int} : asgSl (.int i) false = .val (.int i) := Eq.trans rfl rfl
theorem q_asgSlf_str {s : List Nat} : asgSl (.str s) false = .val (.str s) := Eq.trans rfl rfl
theorem q_asgSlf_tup {xs : List D} : asgSl (.tup xs) false = .val (.tup xs) := Eq.trans rfl rfl
theorem q_asgSlf_lst {xs : List D} : asgSl (.lst xs) false = .val (.lst xs) := Eq.trans rfl rfl
theorem q_asgSlf_frz {xs : List D} : asgSl (.frz xs) false = .val (.frz xs) := Eq.trans rfl rfl
theorem q_asgSlf_dic {kv : List (Ky × D)} : asgSl (.dic kv) false = .val (.dic kv) := Eq.trans rfl rfl
theorem q_asgSlf_obj {C : String} {fs : List (String × D)} : asgSl (.obj C fs) false = .val (.obj C fs) := Eq.trans rfl rfl
theorem q_asgSlf_ref {i : Nat} : asgSl (.ref i) false = .val (.ref i) := Eq.trans rfl rfl
theorem q_asgSlf_fn {f : String} : asgSl (.fn f) false = .val (.fn f) := Eq.trans rfl rfl
theorem q_asgSlf_exc {C : String} {fs : List (String × D)} : asgSl (.exc C fs) false = .val (.exc C fs) := Eq.trans rfl rfl
theorem q_asgSlt_int {i : Int} : asgSl (.int i) true = .val (.int i) := Eq.trans rfl rfl
theorem q_asgSlt_str {s : List Nat} : asgSl (.str s) true = .val (.str s) := Eq.trans rfl rfl
theorem q_asgSlt_bl {b : Bool} : asgSl (.bl b) true = .val (.bl b) := Eq.trans rfl rfl
theorem q_asgSlt_non  : asgSl .non true = .val .non := Eq.trans rfl rfl
theorem q_asgSlt_tup {xs : List D} : asgSl (.tup xs) true = .val (.tup xs) := Eq.trans rfl rfl
theorem q_asgSlt_obj {C : String} {fs : List (String × D)} : asgSl (.obj C fs) true = .val (.obj C fs) := Eq.trans rfl rfl
theorem q_asgSlt_ref {i : Nat} : asgSl (.ref i) true = .val (.ref i) := Eq.trans rfl rfl
theorem q_isSeq_l {xs : List D} : isSeq (.lst xs) = true := Eq.trans rfl rfl
theorem q_isSeq_d {xs : List (Ky × D)} : isSeq (.dic xs) = true := Eq.trans rfl rfl
def frK (b : Bool) (d : D) (w : W) : R (D × Bool) := .ok (d, b) w
theorem q_frK {b : Bool} {d : D} {w : W} : frK b d w = .ok (d, b) w := Eq.trans rfl rfl
theorem q_frE_nm {c : Ct} {w : W} {i : Nat} : frE c (.nm i) w = (evE c (.nm i) w).bind (frK false) := Eq.trans rfl rfl
theorem q_frE_bor {c : Ct} {w : W} {i : Nat} : frE c (.bor i) w = (evE c (.bor i) w).bind (frK false) := Eq.trans rfl rfl
theorem q_frE_kI {c : Ct} {w : W} {i : Int} : frE c (.kI i) w = (evE c (.kI i) w).bind (frK false) := Eq.trans rfl rfl
theorem q_frE_kS {c : Ct} {w : W} {x : List Nat} : frE c (.kS x) w = (evE c (.kS x) w).bind (frK false) := Eq.trans rfl rfl
theorem q_frE_kB {c : Ct} {w : W} {b : Bool} : frE c (.kB b) w = (evE c (.kB b) w).bind (frK false) := Eq.trans rfl rfl
theorem q_frE_kN {c : Ct} {w : W}  : frE c .kN w = (evE c .kN w).bind (frK false) := Eq.trans rfl rfl
theorem q_frE_glo {c : Ct} {w : W} {f : String} : frE c (.glo f) w = (evE c (.glo f) w).bind (frK false) := Eq.trans rfl rfl
theorem q_frE_neg {c : Ct} {w : W} {a : E} : frE c (.neg a) w = (evE c (.neg a) w).bind (frK false) := Eq.trans rfl rfl
theorem q_frE_not {c : Ct} {w : W} {a : E} : frE c (.not a) w = (evE c (.not a) w).bind (frK false) := Eq.trans rfl rfl
theorem q_frE_and {c : Ct} {w : W} {a : E} : frE c (.and a) w = (evE c (.and a) w).bind (frK false) := Eq.trans rfl rfl
theorem q_frE_or {c : Ct} {w : W} {a : E} : frE c (.or a) w = (evE c (.or a) w).bind (frK false) := Eq.trans rfl rfl
theorem q_frE_cmp {c : Ct} {w : W} {o : CmpOp} {a b : E} : frE c (.cmp o a b) w = (evE c (.cmp o a b) w).bind (frK false) := Eq.trans rfl rfl
theorem q_frE_cmp2 {c : Ct} {w : W} {o p : CmpOp} {a b c0 : E} : frE c (.cmp2 o p a b c0) w = (evE c (.cmp2 o p a b c0) w).bind (frK false) := Eq.trans rfl rfl
theorem q_frE_ife {c : Ct} {w : W} {c0 a b : E} : frE c (.ife c0 a b) w = (evE c (.ife c0 a b) w).bind (frK false) := Eq.trans rfl rfl
theorem q_frE_callv {c : Ct} {w : W} {i : Nat} {fs : List String} {as : E} : frE c (.callv i fs as) w = (evE c (.callv i fs as) w).bind (frK false) := Eq.trans rfl rfl
theorem q_frE_ask {c : Ct} {w : W} {f : String} {body : E} : frE c (.ask f body) w = (evE c (.ask f body) w).bind (frK false) := Eq.trans rfl rfl
theorem q_frE_bb {c : Ct} {w : W} {f : B2} {a b : E} : frE c (.bb f a b) w = (evE c (.bb f a b) w).bind (frK false) := Eq.trans rfl rfl
theorem q_frE_isi {c : Ct} {w : W} {a : E} {cs : List Cn} : frE c (.isi a cs) w = (evE c (.isi a cs) w).bind (frK false) := Eq.trans rfl rfl
theorem q_frE_ix {c : Ct} {w : W} {a b : E} : frE c (.ix a b) w = (evE c (.ix a b) w).bind (frK false) := Eq.trans rfl rfl
theorem q_frE_tupD {c : Ct} {w : W} {as : E} : frE c (.tupD as) w = (evE c (.tupD as) w).bind (frK false) := Eq.trans rfl rfl
theorem q_frE_attr {c : Ct} {w : W} {f : String} {a : E} : frE c (.attr f a) w = (evE c (.attr f a) w).bind (frK false) := Eq.trans rfl rfl
theorem q_frE_nope {c : Ct} {w : W}  : frE c .nope w = (evE c .nope w).bind (frK false) := Eq.trans rfl rfl
theorem q_frE_lstD {c : Ct} {w : W} {as : E} : frE c (.lstD as) w = (evE c (.lstD as) w).bind (frK true) := Eq.trans rfl rfl
theorem q_frE_comp {c : Ct} {w : W} {tg : Nat} {it cd el : E} : frE c (.comp tg it cd el) w = (evE c (.comp tg it cd el) w).bind (frK true) := Eq.trans rfl rfl
theorem q_frE_slc {c : Ct} {w : W} {a l h : E} : frE c (.slc a l h) w = (evE c (.slc a l h) w).bind (frK true) := Eq.trans rfl rfl
theorem q_frE_dicD {c : Ct} {w : W} {as : E} : frE c (.dicD as) w = (evE c (.dicD as) w).bind (frK true) := Eq.trans rfl rfl
theorem q_frE_list {c : Ct} {w : W} {a : E} : frE c (.bu .list a) w = (evE c (.bu .list a) w).bind (frK true) := Eq.trans rfl rfl
theorem q_frE_lvals {c : Ct} {w : W} {a : E} : frE c (.bu .lvals a) w = (evE c (.bu .lvals a) w).bind (frK true) := Eq.trans rfl rfl
theorem q_frE_rev {c : Ct} {w : W} {a : E} : frE c (.bu .rev a) w = (evE c (.bu .rev a) w).bind (frK true) := Eq.trans rfl rfl
theorem q_frE_add {c : Ct} {w : W} {a b : E} : frE c (.bin .Add a b) w = (evE c (.bin .Add a b) w).bind (frK true) := Eq.trans rfl rfl
theorem q_frE_Sub {c : Ct} {w : W} {a b : E} : frE c (.bin .Sub a b) w = (evE c (.bin .Sub a b) w).bind (frK false) := Eq.trans rfl rfl
theorem q_frE_Mult {c : Ct} {w : W} {a b : E} : frE c (.bin .Mult a b) w = (evE c (.bin .Mult a b) w).bind (frK false) := Eq.trans rfl rfl
theorem q_frE_FloorDiv {c : Ct} {w : W} {a b : E} : frE c (.bin .FloorDiv a b) w = (evE c (.bin .FloorDiv a b) w).bind (frK false) := Eq.trans rfl rfl
theorem q_frE_Mod {c : Ct} {w : W} {a b : E} : frE c (.bin .Mod a b) w = (evE c (.bin .Mod a b) w).bind (frK false) := Eq.trans rfl rfl
theorem q_frE_Pow {c : Ct} {w : W} {a b : E} : frE c (.bin .Pow a b) w = (evE c (.bin .Pow a b) w).bind (frK false) := Eq.trans rfl rfl
theorem q_frE_b_len {c : Ct} {w : W} {a : E} : frE c (.bu .len a) w = (evE c (.bu .len a) w).bind (frK false) := Eq.trans rfl rfl
theorem q_frE_b_abs {c : Ct} {w : W} {a : E} : frE c (.bu .abs a) w = (evE c (.bu .abs a) w).bind (frK false) := Eq.trans rfl rfl
theorem q_frE_b_int {c : Ct} {w : W} {a : E} : frE c (.bu .int a) w = (evE c (.bu .int a) w).bind (frK false) := Eq.trans rfl rfl
theorem q_frE_b_tuple {c : Ct} {w : W} {a : E} : frE c (.bu .tuple a) w = (evE c (.bu .tuple a) w).bind (frK false) := Eq.trans rfl rfl
theorem q_frE_b_bitlen {c : Ct} {w : W} {a : E} : frE c (.bu .bitlen a) w = (evE c (.bu .bitlen a) w).bind (frK false) := Eq.trans rfl rfl
theorem q_frE_b_upper {c : Ct} {w : W} {a : E} : frE c (.bu .upper a) w = (evE c (.bu .upper a) w).bind (frK false) := Eq.trans rfl rfl
theorem q_frE_b_all {c : Ct} {w : W} {a : E} : frE c (.bu .all a) w = (evE c (.bu .all a) w).bind (frK false) := Eq.trans rfl rfl
theorem q_frE_b_any {c : Ct} {w : W} {a : E} : frE c (.bu .any a) w = (evE c (.bu .any a) w).bind (frK false) := Eq.trans rfl rfl
theorem q_frE_b_sum {c : Ct} {w : W} {a : E} : frE c (.bu .sum a) w = (evE c (.bu .sum a) w).bind (frK false) := Eq.trans rfl rfl
theorem q_frE_b_bool {c : Ct} {w : W} {a : E} : frE c (.bu .bool a) w = (evE c (.bu .bool a) w).bind (frK false) := Eq.trans rfl rfl
def liftP (w : W) : CR → R (D × Bool)
  | .ok d fr cs => .ok (d, fr) { w with cs := cs }
  | .ex C fs cs => .ex C fs { w with cs := cs }
  | .bad => .bad
theorem q_liftP_ok {w : W} {d : D} {fr : Bool} {cs : List D} : liftP w (.ok d fr cs) = .ok (d, fr) { w with cs := cs } := Eq.trans rfl rfl
theorem q_liftP_ex {w : W} {C : String} {fs : List (String × D)} {cs : List D} : liftP w (.ex C fs cs) = .ex C fs { w with cs := cs } := Eq.trans rfl rfl
def frcK (c : Ct) (f : String) (ds : List D) (w1 : W) : R (D × Bool) := liftP w1 (c.call f ds w1.cs)
theorem q_frcK {c : Ct} {f : String} {ds : List D} {w1 : W} : frcK c f ds w1 = liftP w1 (c.call f ds w1.cs) := Eq.trans rfl rfl
theorem q_frE_call {c : Ct} {w : W} {f : String} {as : E} : frE c (.call f as) w = (evEs c as w).bind (frcK c f) := by
  show (evEs c as w).bind _ = _
  congr 1
def wlP (w : W) (Q : D × Bool → W → Prop) (d : D) (fr : Bool) (cs : List D) : Prop := Q (d, fr) { w with cs := cs }
def wlX (w : W) (X : String → List (String × D) → W → Prop) (C : String) (fs : List (String × D)) (cs : List D) : Prop := X C fs { w with cs := cs }
def wlQ (w : W) (Q : D → W → Prop) (d : D) (fr : Bool) (cs : List D) : Prop := Q d { w with cs := cs }
def noX0 (C : String) (fs : List (String × D)) (cs : List D) : Prop := False
theorem q_wlP {w : W} {Q : D × Bool → W → Prop} {d : D} {fr : Bool} {cs : List D} : wlP w Q d fr cs = Q (d, fr) { w with cs := cs } := Eq.trans rfl rfl
theorem q_wlX {w : W} {X : String → List (String × D) → W → Prop} {C : String} {fs : List (String × D)} {cs : List D} : wlX w X C fs cs = X C fs { w with cs := cs } := Eq.trans rfl rfl
theorem q_wlQ {w : W} {Q : D → W → Prop} {d : D} {fr : Bool} {cs : List D} : wlQ w Q d fr cs = Q d { w with cs := cs } := Eq.trans rfl rfl
theorem q_wp_liftP {w : W} {r : CR} {Q : D × Bool → W → Prop} {X : String → List (String × D) → W → Prop} : (liftP w r).wp Q X = r.wp (wlP w Q) (wlX w X) := by cases r <;> rfl
theorem q_wp_lift {w : W} {r : CR} {Q : D → W → Prop} {X : String → List (String × D) → W → Prop} : (lift r w).wp Q X = r.wp (wlQ w Q) (wlX w X) := by cases r <;> rfl
theorem q_wp_liftN {w : W} {r : CR} {Q : D → W → Prop} {X : String → List (String × D) → W → Prop} : (liftN r w).wp Q X = r.wp (wlQ w Q) noX0 := by cases r <;> rfl
def wpK {α β : Type} (f : α → W → R β) (Q : β → W → Prop) (X : String → List (String × D) → W → Prop) (a : α) (w : W) : Prop := (f a w).wp Q X
theorem q_wpK {α β : Type} {f : α → W → R β} {Q : β → W → Prop} {X : String → List (String × D) → W → Prop} {a : α} {w : W} : wpK f Q X a w = (f a w).wp Q X := Eq.trans rfl rfl
theorem q_wp_bind {α β : Type} {r : R α} {f : α → W → R β} {Q : β → W → Prop} {X : String → List (String × D) → W → Prop} : (r.bind f).wp Q X = r.wp (wpK f Q X) X := by cases r <;> rfl
def lamP (P : D → Bool → List D → Prop) (d : D) (w : W) : Prop := P d false w.cs
def lamX (Y : String → List (String × D) → List D → Prop) (C : String) (fs : List (String × D)) (w : W) : Prop := Y C fs w.cs
theorem q_lamP {P : D → Bool → List D → Prop} {d : D} {w : W} : lamP P d w = P d false w.cs := Eq.trans rfl rfl
theorem q_lamX {Y : String → List (String × D) → List D → Prop} {C : String} {fs : List (String × D)} {w : W} : lamX Y C fs w = Y C fs w.cs := Eq.trans rfl rfl
theorem q_cwp_lam {r : R D} {P : D → Bool → List D → Prop} {Y : String → List (String × D) → List D → Prop} : (lamCR r).wp P Y = r.wp (lamP P) (lamX Y) := by cases r <;> rfl
def frRo (w : W) (i : Nat) : Option Sl → R (D × Bool)
  | some (.own d) => .ok (d, true) { w with sl := w.sl.set i .no }
  | some (.val d) => .ok (d, false) w
  | _ => .bad
theorem q_frR_nm {c : Ct} {sl : List Sl} {cs : List D} {i : Nat} : frR c (.nm i) ⟨sl, cs⟩ = frRo ⟨sl, cs⟩ i (sl[i]?) := by
  unfold frR frRo
  dsimp only
  cases h : sl[i]? with
  | none => dsimp only; rw [evE]; unfold rdS; dsimp only; rw [h]; rfl
  | some s => cases s <;> dsimp only <;> (try rfl) <;> (rw [evE]; unfold rdS; dsimp only; rw [h]; rfl)
theorem q_frRo_own {w : W} {i : Nat} {d : D} : frRo w i (some (.own d)) = .ok (d, true) { w with sl := w.sl.set i .no } := Eq.trans rfl rfl
theorem q_frRo_val {w : W} {i : Nat} {d : D} : frRo w i (some (.val d)) = .ok (d, false) w := Eq.trans rfl rfl
theorem q_frR_bor {c : Ct} {w : W} {i : Nat} : frR c (.bor i) w = frE c (.bor i) w := Eq.trans rfl rfl
theorem q_frR_kI {c : Ct} {w : W} {i : Int} : frR c (.kI i) w = frE c (.kI i) w := Eq.trans rfl rfl
theorem q_frR_kS {c : Ct} {w : W} {x : List Nat} : frR c (.kS x) w = frE c (.kS x) w := Eq.trans rfl rfl
theorem q_frR_kB {c : Ct} {w : W} {b : Bool} : frR c (.kB b) w = frE c (.kB b) w := Eq.trans rfl rfl
theorem q_frR_kN {c : Ct} {w : W}  : frR c .kN w = frE c .kN w := Eq.trans rfl rfl
theorem q_frR_glo {c : Ct} {w : W} {f : String} : frR c (.glo f) w = frE c (.glo f) w := Eq.trans rfl rfl
theorem q_frR_neg {c : Ct} {w : W} {a : E} : frR c (.neg a) w = frE c (.neg a) w := Eq.trans rfl rfl
theorem q_frR_not {c : Ct} {w : W} {a : E} : frR c (.not a) w = frE c (.not a) w := Eq.trans rfl rfl
theorem q_frR_and {c : Ct} {w : W} {a : E} : frR c (.and a) w = frE c (.and a) w := Eq.trans rfl rfl
theorem q_frR_or {c : Ct} {w : W} {a : E} : frR c (.or a) w = frE c (.or a) w := Eq.trans rfl rfl
theorem q_frR_cmp {c : Ct} {w : W} {o : CmpOp} {a b : E} : frR c (.cmp o a b) w = frE c (.cmp o a b) w := Eq.trans rfl rfl
theorem q_frR_cmp2 {c : Ct} {w : W} {o p : CmpOp} {a b c0 : E} : frR c (.cmp2 o p a b c0) w = frE c (.cmp2 o p a b c0) w := Eq.trans rfl rfl
theorem q_frR_ife {c : Ct} {w : W} {c0 a b : E} : frR c (.ife c0 a b) w = frE c (.ife c0 a b) w := Eq.trans rfl rfl
theorem q_frR_callv {c : Ct} {w : W} {i : Nat} {fs : List String} {as : E} : frR c (.callv i fs as) w = frE c (.callv i fs as) w := Eq.trans rfl rfl
theorem q_frR_ask {c : Ct} {w : W} {f : String} {body : E} : frR c (.ask f body) w = frE c (.ask f body) w := Eq.trans rfl rfl
theorem q_frR_bb {c : Ct} {w : W} {f : B2} {a b : E} : frR c (.bb f a b) w = frE c (.bb f a b) w := Eq.trans rfl rfl
theorem q_frR_isi {c : Ct} {w : W} {a : E} {cs : List Cn} : frR c (.isi a cs) w = frE c (.isi a cs) w := Eq.trans rfl rfl
theorem q_frR_ix {c : Ct} {w : W} {a b : E} : frR c (.ix a b) w = frE c (.ix a b) w := Eq.trans rfl rfl
theorem q_frR_tupD {c : Ct} {w : W} {as : E} : frR c (.tupD as) w = frE c (.tupD as) w := Eq.trans rfl rfl
theorem q_frR_attr {c : Ct} {w : W} {f : String} {a : E} : frR c (.attr f a) w = frE c (.attr f a) w := Eq.trans rfl rfl
theorem q_frR_nope {c : Ct} {w : W}  : frR c .nope w = frE c .nope w := Eq.trans rfl rfl
theorem q_frR_lstD {c : Ct} {w : W} {as : E} : frR c (.lstD as) w = frE c (.lstD as) w := Eq.trans rfl rfl
theorem q_frR_comp {c : Ct} {w : W} {tg : Nat} {it cd el : E} : frR c (.comp tg it cd el) w = frE c (.comp tg it cd el) w := Eq.trans rfl rfl
theorem q_frR_slc {c : Ct} {w : W} {a l h : E} : frR c (.slc a l h) w = frE c (.slc a l h) w := Eq.trans rfl rfl
theorem q_frR_dicD {c : Ct} {w : W} {as : E} : frR c (.dicD as) w = frE c (.dicD as) w := Eq.trans rfl rfl
theorem q_frR_bu {c : Ct} {w : W} {f : B1} {a : E} : frR c (.bu f a) w = frE c (.bu f a) w := Eq.trans rfl rfl
theorem q_frR_bin {c : Ct} {w : W} {o : Operator} {a b : E} : frR c (.bin o a b) w = frE c (.bin o a b) w := Eq.trans rfl rfl
theorem q_frR_call {c : Ct} {w : W} {f : String} {as : E} : frR c (.call f as) w = frE c (.call f as) w := Eq.trans rfl rfl
theorem q_pairs0  : pairs [] = some [] := Eq.trans rfl rfl
def pairO (k : Option Ky) (v : D) (r : Option (List (Ky × D))) : Option (List (Ky × D)) := match k, r with
  | some q, some ps => some ((q, v) :: ps)
  | _, _ => none
theorem q_pairs2 {k v : D} {r : List D} : pairs (k :: v :: r) = pairO (keyOf k) v (pairs r) := Eq.trans rfl rfl
theorem q_pairO {k : Ky} {v : D} {r : List (Ky × D)} : pairO (some k) v (some r) = some ((k, v) :: r) := Eq.trans rfl rfl
theorem q_mkDic0 {a : List (Ky × D)} : mkDic a [] = a := Eq.trans rfl rfl
theorem q_mkDic1 {a r : List (Ky × D)} {p : Ky × D} : mkDic a (p :: r) = mkDic (putK a p.1 p.2) r := Eq.trans rfl rfl
theorem q_ixl0 {n : Nat} : ixOf (n + 1) 0 = some 0 := by
  unfold ixOf
  rw [if_pos (by decide), if_pos (by omega)]
  rfl
theorem q_ixl1 {n : Nat} : ixOf (n + 2) 1 = some 1 := by
  unfold ixOf
  rw [if_pos (by decide), if_pos (by omega)]
  rfl
theorem q_ixl2 {n : Nat} : ixOf (n + 3) 2 = some 2 := by
  unfold ixOf
  rw [if_pos (by decide), if_pos (by omega)]
  rfl
theorem q_ixl3 {n : Nat} : ixOf (n + 4) 3 = some 3 := by
  unfold ixOf
  rw [if_pos (by decide), if_pos (by omega)]
  rfl
theorem q_ixl4 {n : Nat} : ixOf (n + 5) 4 = some 4 := by
  unfold ixOf
  rw [if_pos (by decide), if_pos (by omega)]
  rfl
theorem q_ixl5 {n : Nat} : ixOf (n + 6) 5 = some 5 := by
  unfold ixOf
  rw [if_pos (by decide), if_pos (by omega)]
  rfl
theorem q_ixl6 {n : Nat} : ixOf (n + 7) 6 = some 6 := by
  unfold ixOf
  rw [if_pos (by decide), if_pos (by omega)]
  rfl
theorem q_ixl7 {n : Nat} : ixOf (n + 8) 7 = some 7 := by
  unfold ixOf
  rw [if_pos (by decide), if_pos (by omega)]
  rfl
theorem q_ixl8 {n : Nat} : ixOf (n + 9) 8 = some 8 := by
  unfold ixOf
  rw [if_pos (by decide), if_pos (by omega)]
  rfl
theorem q_ixl9 {n : Nat} : ixOf (n + 10) 9 = some 9 := by
  unfold ixOf
  rw [if_pos (by decide), if_pos (by omega)]
  rfl
theorem q_ixl10 {n : Nat} : ixOf (n + 11) 10 = some 10 := by
  unfold ixOf
  rw [if_pos (by decide), if_pos (by omega)]
  rfl
theorem q_ixl11 {n : Nat} : ixOf (n + 12) 11 = some 11 := by
  unfold ixOf
  rw [if_pos (by decide), if_pos (by omega)]
  rfl
theorem q_ixl12 {n : Nat} : ixOf (n + 13) 12 = some 12 := by
  unfold ixOf
  rw [if_pos (by decide), if_pos (by omega)]
  rfl
theorem q_ixm1 {n : Nat} : ixOf (n + 1) (-1) = some n := by
  unfold ixOf
  rw [if_neg (by decide), if_pos (by omega)]
  congr 1
  omega
theorem q_ixm2 {n : Nat} : ixOf (n + 2) (-2) = some n := by
  unfold ixOf
  rw [if_neg (by decide), if_pos (by omega)]
  congr 1
  omega
theorem q_ix_nn {n : Nat} {i : Int} (h : 0 ≤ i) (h2 : i < n) : ixOf n i = some i.toNat := by unfold ixOf; rw [if_pos h, if_pos h2]
theorem e_nm {c : Ct} {w : W} {i : Nat} : evE c (.nm i) w = rdS w i := by rw [evE]
theorem e_bor {c : Ct} {w : W} {i : Nat} : evE c (.bor i) w = rdB w i := by rw [evE]
theorem e_kI {c : Ct} {w : W} {i : Int} : evE c (.kI i) w = .ok (.int i) w := by rw [evE]
theorem e_kS {c : Ct} {w : W} {i : List Nat} : evE c (.kS i) w = .ok (.str i) w := by rw [evE]
theorem e_kB {c : Ct} {w : W} {i : Bool} : evE c (.kB i) w = .ok (.bl i) w := by rw [evE]
theorem e_kN {c : Ct} {w : W}  : evE c .kN w = .ok .non w := by rw [evE]
theorem e_glo {c : Ct} {w : W} {f : String} : evE c (.glo f) w = .ok (.fn f) w := by rw [evE]
theorem e_nope {c : Ct} {w : W}  : evE c .nope w = .bad := by rw [evE]
def binK2 (o : Operator) (x : D) (y : D) (w : W) : R D := opt (binop o (dr w x) (dr w y)) w
theorem k_binK2 {o : Operator} {x : D} {y : D} {w : W} : binK2 o x y w = opt (binop o (dr w x) (dr w y)) w := Eq.trans rfl rfl
def binK1 (c : Ct) (o : Operator) (b : E) (x : D) (w : W) : R D := (evE c b w).bind (binK2 o x)
theorem k_binK1 {c : Ct} {o : Operator} {b : E} {x : D} {w : W} : binK1 c o b x w = (evE c b w).bind (binK2 o x) := Eq.trans rfl rfl
theorem e_bin {c : Ct} {w : W} {o : Operator} {a b : E} : evE c (.bin o a b) w = (evE c a w).bind (binK1 c o b) := by rw [evE]; rfl
def negO : D → Option D
  | .int i => some (.int (-i))
  | _ => none
theorem q_negO {i : Int} : negO (.int i) = some (.int (-i)) := Eq.trans rfl rfl
def negK  (x : D) (w : W) : R D := opt (negO x) w
theorem k_negK  {x : D} {w : W} : negK x w = opt (negO x) w := Eq.trans rfl rfl
theorem e_neg {c : Ct} {w : W} {a : E} : evE c (.neg a) w = (evE c a w).bind negK := by
  rw [evE]
  congr 1
  funext x w1
  cases x <;> rfl
def notK2  (b : Bool) (w : W) : R D := .ok (.bl (!b)) w
theorem k_notK2  {b : Bool} {w : W} : notK2 b w = .ok (.bl (!b)) w := Eq.trans rfl rfl
def notK1  (x : D) (w : W) : R D := (tr x w).bind notK2
theorem k_notK1  {x : D} {w : W} : notK1 x w = (tr x w).bind notK2 := Eq.trans rfl rfl
theorem e_not {c : Ct} {w : W} {a : E} : evE c (.not a) w = (evE c a w).bind notK1 := by rw [evE]; rfl
def blK  (b : Bool) (w : W) : R D := .ok (.bl b) w
theorem k_blK  {b : Bool} {w : W} : blK b w = .ok (.bl b) w := Eq.trans rfl rfl
def cmpK2 (o : CmpOp) (x : D) (y : D) (w : W) : R D := (opt (cmpop o (dr w x) (dr w y)) w).bind blK
theorem k_cmpK2 {o : CmpOp} {x : D} {y : D} {w : W} : cmpK2 o x y w = (opt (cmpop o (dr w x) (dr w y)) w).bind blK := Eq.trans rfl rfl
def cmpK1 (c : Ct) (o : CmpOp) (b : E) (x : D) (w : W) : R D := (evE c b w).bind (cmpK2 o x)
theorem k_cmpK1 {c : Ct} {o : CmpOp} {b : E} {x : D} {w : W} : cmpK1 c o b x w = (evE c b w).bind (cmpK2 o x) := Eq.trans rfl rfl
theorem e_cmp {c : Ct} {w : W} {o : CmpOp} {a b : E} : evE c (.cmp o a b) w = (evE c a w).bind (cmpK1 c o b) := by rw [evE]; rfl
def c2K3 (c : Ct) (p : CmpOp) (d : E) (y : D) (t : Bool) (w : W) : R D := if t then (evE c d w).bind (cmpK2 p y) else .ok (.bl false) w
theorem k_c2K3 {c : Ct} {p : CmpOp} {d : E} {y : D} {t : Bool} {w : W} : c2K3 c p d y t w = if t then (evE c d w).bind (cmpK2 p y) else .ok (.bl false) w := Eq.trans rfl rfl
def c2K2 (c : Ct) (o p : CmpOp) (d : E) (x : D) (y : D) (w : W) : R D := (opt (cmpop o (dr w x) (dr w y)) w).bind (c2K3 c p d y)
theorem k_c2K2 {c : Ct} {o p : CmpOp} {d : E} {x : D} {y : D} {w : W} : c2K2 c o p d x y w = (opt (cmpop o (dr w x) (dr w y)) w).bind (c2K3 c p d y) := Eq.trans rfl rfl
def c2K1 (c : Ct) (o p : CmpOp) (b d : E) (x : D) (w : W) : R D := (evE c b w).bind (c2K2 c o p d x)
theorem k_c2K1 {c : Ct} {o p : CmpOp} {b d : E} {x : D} {w : W} : c2K1 c o p b d x w = (evE c b w).bind (c2K2 c o p d x) := Eq.trans rfl rfl
theorem e_cmp2 {c : Ct} {w : W} {o p : CmpOp} {a b d : E} : evE c (.cmp2 o p a b d) w = (evE c a w).bind (c2K1 c o p b d) := by rw [evE]; rfl
def ifeK2 (c : Ct) (a b : E) (u : Bool) (w : W) : R D := if u then evE c a w else evE c b w
theorem k_ifeK2 {c : Ct} {a b : E} {u : Bool} {w : W} : ifeK2 c a b u w = if u then evE c a w else evE c b w := Eq.trans rfl rfl
def ifeK1 (c : Ct) (a b : E) (x : D) (w : W) : R D := (tr x w).bind (ifeK2 c a b)
theorem k_ifeK1 {c : Ct} {a b : E} {x : D} {w : W} : ifeK1 c a b x w = (tr x w).bind (ifeK2 c a b) := Eq.trans rfl rfl
theorem e_ife {c : Ct} {w : W} {t a b : E} : evE c (.ife t a b) w = (evE c t w).bind (ifeK1 c a b) := by rw [evE]; rfl
def callK (c : Ct) (f : String) (ds : List D) (w : W) : R D := lift (c.call f ds w.cs) w
theorem k_callK {c : Ct} {f : String} {ds : List D} {w : W} : callK c f ds w = lift (c.call f ds w.cs) w := Eq.trans rfl rfl
theorem e_call {c : Ct} {w : W} {f : String} {as : E} : evE c (.call f as) w = (evEs c as w).bind (callK c f) := by rw [evE]; rfl
def cvK (c : Ct) (fs : List String) (as : E) (g : D) (w : W) : R D := match g with
  | .fn f => if f ∈ fs then (evEs c as w).bind (callK c f) else .bad
  | _ => .bad
theorem k_cvK {c : Ct} {fs : List String} {as : E} {f : String} {w : W} : cvK c fs as (.fn f) w = if f ∈ fs then (evEs c as w).bind (callK c f) else .bad := Eq.trans rfl rfl
theorem e_callv {c : Ct} {w : W} {i : Nat} {fs : List String} {as : E} : evE c (.callv i fs as) w = (rdB w i).bind (cvK c fs as) := by rw [evE]; rfl
def askT (c : Ct) (body : E) (sl : List Sl) (cs : List D) : CR := lamCR (evE (lamCt c) body ⟨sl.map lend, cs⟩)
theorem k_askT {c : Ct} {body : E} {sl : List Sl} {cs : List D} : askT c body sl cs = lamCR (evE (lamCt c) body ⟨sl.map lend, cs⟩) := Eq.trans rfl rfl
theorem e_ask {c : Ct} {f : String} {body : E} {sl : List Sl} {cs : List D} : evE c (.ask f body) ⟨sl, cs⟩ = liftN (c.ask f (askT c body sl) cs) ⟨sl, cs⟩ := by rw [evE]; rfl
def buK (f : B1) (x : D) (w : W) : R D := opt (b1 f (dr w x)) w
theorem k_buK {f : B1} {x : D} {w : W} : buK f x w = opt (b1 f (dr w x)) w := Eq.trans rfl rfl
theorem e_bu {c : Ct} {w : W} {f : B1} {a : E} : evE c (.bu f a) w = (evE c a w).bind (buK f) := by rw [evE]; rfl
def bbK2 (f : B2) (x : D) (y : D) (w : W) : R D := opt (b2 f (dr w x) (dr w y)) w
theorem k_bbK2 {f : B2} {x : D} {y : D} {w : W} : bbK2 f x y w = opt (b2 f (dr w x) (dr w y)) w := Eq.trans rfl rfl
def bbK1 (c : Ct) (f : B2) (b : E) (x : D) (w : W) : R D := (evE c b w).bind (bbK2 f x)
theorem k_bbK1 {c : Ct} {f : B2} {b : E} {x : D} {w : W} : bbK1 c f b x w = (evE c b w).bind (bbK2 f x) := Eq.trans rfl rfl
theorem e_bb {c : Ct} {w : W} {f : B2} {a b : E} : evE c (.bb f a b) w = (evE c a w).bind (bbK1 c f b) := by rw [evE]; rfl
def isiK (cs : List Cn) (x : D) (w : W) : R D := (opt (isInsts (dr w x) cs) w).bind blK
theorem k_isiK {cs : List Cn} {x : D} {w : W} : isiK cs x w = (opt (isInsts (dr w x) cs) w).bind blK := Eq.trans rfl rfl
theorem e_isi {c : Ct} {w : W} {a : E} {cs : List Cn} : evE c (.isi a cs) w = (evE c a w).bind (isiK cs) := by rw [evE]; rfl
def ixK2 (x : D) (y : D) (w : W) : R D := opt (itemOf (dr w x) y) w
theorem k_ixK2 {x : D} {y : D} {w : W} : ixK2 x y w = opt (itemOf (dr w x) y) w := Eq.trans rfl rfl
def ixK1 (c : Ct) (b : E) (x : D) (w : W) : R D := (evE c b w).bind (ixK2 x)
theorem k_ixK1 {c : Ct} {b : E} {x : D} {w : W} : ixK1 c b x w = (evE c b w).bind (ixK2 x) := Eq.trans rfl rfl
theorem e_ix {c : Ct} {w : W} {a b : E} : evE c (.ix a b) w = (evE c a w).bind (ixK1 c b) := by rw [evE]; rfl
def slcO (l h : Option Int) : D → Option D
  | .lst xs => some (.lst (cut xs l h))
  | .str z => if lineOk z.length then some (.str (cut z l h)) else none
  | _ => none
theorem q_slcO_l {l h : Option Int} {xs : List D} : slcO l h (.lst xs) = some (.lst (cut xs l h)) := Eq.trans rfl rfl
theorem q_slcO_s {l h : Option Int} {z : List Nat} : slcO l h (.str z) = if lineOk z.length then some (.str (cut z l h)) else none := Eq.trans rfl rfl
def slcK3 (x : D) (l : Option Int) (h : Option Int) (w : W) : R D := opt (slcO l h (dr w x)) w
theorem k_slcK3 {x : D} {l : Option Int} {h : Option Int} {w : W} : slcK3 x l h w = opt (slcO l h (dr w x)) w := Eq.trans rfl rfl
def slcK2 (c : Ct) (hi : E) (x : D) (l : Option Int) (w : W) : R D := (evO c hi w).bind (slcK3 x l)
theorem k_slcK2 {c : Ct} {hi : E} {x : D} {l : Option Int} {w : W} : slcK2 c hi x l w = (evO c hi w).bind (slcK3 x l) := Eq.trans rfl rfl
def slcK1 (c : Ct) (lo hi : E) (x : D) (w : W) : R D := (evO c lo w).bind (slcK2 c hi x)
theorem k_slcK1 {c : Ct} {lo hi : E} {x : D} {w : W} : slcK1 c lo hi x w = (evO c lo w).bind (slcK2 c hi x) := Eq.trans rfl rfl
theorem e_slc {c : Ct} {w : W} {a lo hi : E} : evE c (.slc a lo hi) w = (evE c a w).bind (slcK1 c lo hi) := by
  rw [evE]
  congr 1
  funext x w1
  show _ = (evO c lo w1).bind _
  congr 1
  funext l w2
  show _ = (evO c hi w2).bind _
  congr 1
  funext h w3
  show _ = opt (slcO l h (dr w3 x)) w3
  cases dr w3 x <;> try rfl
  dsimp only [slcO]
  split <;> rfl
def tupK  (ds : List D) (w : W) : R D := .ok (.tup ds) w
theorem k_tupK  {ds : List D} {w : W} : tupK ds w = .ok (.tup ds) w := Eq.trans rfl rfl
theorem e_tupD {c : Ct} {w : W} {as : E} : evE c (.tupD as) w = (evEs c as w).bind tupK := by rw [evE]; rfl
def lstK  (ds : List D) (w : W) : R D := .ok (.lst ds) w
theorem k_lstK  {ds : List D} {w : W} : lstK ds w = .ok (.lst ds) w := Eq.trans rfl rfl
theorem e_lstD {c : Ct} {w : W} {as : E} : evE c (.lstD as) w = (evEs c as w).bind lstK := by rw [evE]; rfl
def dicK2  (ps : List (Ky × D)) (w : W) : R D := .ok (.dic (mkDic [] ps)) w
theorem k_dicK2  {ps : List (Ky × D)} {w : W} : dicK2 ps w = .ok (.dic (mkDic [] ps)) w := Eq.trans rfl rfl
def dicK  (ds : List D) (w : W) : R D := (opt (pairs ds) w).bind dicK2
theorem k_dicK  {ds : List D} {w : W} : dicK ds w = (opt (pairs ds) w).bind dicK2 := Eq.trans rfl rfl
theorem e_dicD {c : Ct} {w : W} {as : E} : evE c (.dicD as) w = (evEs c as w).bind dicK := by rw [evE]; rfl
def someK  (y : D) (w : W) : R (Option D) := .ok (some y) w
theorem k_someK  {y : D} {w : W} : someK y w = .ok (some y) w := Eq.trans rfl rfl
def compK2 (c : Ct) (el : E) (t : Bool) (w : W) : R (Option D) := if t then (evE c el w).bind someK else .ok none w
theorem k_compK2 {c : Ct} {el : E} {t : Bool} {w : W} : compK2 c el t w = if t then (evE c el w).bind someK else .ok none w := Eq.trans rfl rfl
def compF (c : Ct) (i : Nat) (cd el : E) (x : D) (w : W) : R (Option D) := noEx ((evC c cd (setSl w i (.val x))).bind (compK2 c el))
theorem k_compF {c : Ct} {i : Nat} {cd el : E} {x : D} {w : W} : compF c i cd el x w = noEx ((evC c cd (setSl w i (.val x))).bind (compK2 c el)) := Eq.trans rfl rfl
def compK3 (i : Nat) (o : Sl) (ys : List D) (w : W) : R D := .ok (.lst ys) (setSl w i o)
theorem k_compK3 {i : Nat} {o : Sl} {ys : List D} {w : W} : compK3 i o ys w = .ok (.lst ys) (setSl w i o) := Eq.trans rfl rfl
def compK1 (c : Ct) (i : Nat) (cd el : E) (o : Sl) (xs : List D) (w : W) : R D := (compL (compF c i cd el) xs [] w).bind (compK3 i o)
theorem k_compK1 {c : Ct} {i : Nat} {cd el : E} {o : Sl} {xs : List D} {w : W} : compK1 c i cd el o xs w = (compL (compF c i cd el) xs [] w).bind (compK3 i o) := Eq.trans rfl rfl
theorem e_comp {c : Ct} {w : W} {i : Nat} {it cd el : E} : evE c (.comp i it cd el) w = (evI c it w).bind (compK1 c i cd el ((w.sl[i]?).getD .no)) := by rw [evE]; rfl
def attrO (f : String) : D → Option D
  | .exc _ fs => fs.lookup f
  | _ => none
theorem q_attrO {f : String} {C : String} {fs : List (String × D)} : attrO f (.exc C fs) = fs.lookup f := Eq.trans rfl rfl
def attrK (f : String) (x : D) (w : W) : R D := opt (attrO f x) w
theorem k_attrK {f : String} {x : D} {w : W} : attrK f x w = opt (attrO f x) w := Eq.trans rfl rfl
theorem e_attr {c : Ct} {w : W} {f : String} {a : E} : evE c (.attr f a) w = (evE c a w).bind (attrK f) := by
  rw [evE]
  congr 1
  funext x w1
  cases x <;> rfl
theorem e_es0 {c : Ct} {w : W}  : evEs c .nil w = .ok [] w := by rw [evEs]
def esK2 (x : D) (xs : List D) (w : W) : R (List D) := .ok (x :: xs) w
theorem k_esK2 {x : D} {xs : List D} {w : W} : esK2 x xs w = .ok (x :: xs) w := Eq.trans rfl rfl
def esK1 (c : Ct) (b : E) (x : D) (w : W) : R (List D) := (evEs c b w).bind (esK2 x)
theorem k_esK1 {c : Ct} {b : E} {x : D} {w : W} : esK1 c b x w = (evEs c b w).bind (esK2 x) := Eq.trans rfl rfl
theorem e_es1 {c : Ct} {w : W} {a b : E} : evEs c (.cons a b) w = (evE c a w).bind (esK1 c b) := by rw [evEs]; rfl
theorem e_and {c : Ct} {w : W} {as : E} : evE c (.and as) w = evA c as w := by rw [evE]
theorem e_or {c : Ct} {w : W} {as : E} : evE c (.or as) w = evOr c as w := by rw [evE]
theorem e_a1 {c : Ct} {w : W} {a : E} : evA c (.cons a .nil) w = evE c a w := by rw [evA]
def aK2 (c : Ct) (as : E) (x : D) (t : Bool) (w : W) : R D := if t then evA c as w else .ok x w
theorem k_aK2 {c : Ct} {as : E} {x : D} {t : Bool} {w : W} : aK2 c as x t w = if t then evA c as w else .ok x w := Eq.trans rfl rfl
def aK1 (c : Ct) (as : E) (x : D) (w : W) : R D := (tr x w).bind (aK2 c as x)
theorem k_aK1 {c : Ct} {as : E} {x : D} {w : W} : aK1 c as x w = (tr x w).bind (aK2 c as x) := Eq.trans rfl rfl
theorem e_a2 {c : Ct} {w : W} {a b r : E} : evA c (.cons a (.cons b r)) w = (evE c a w).bind (aK1 c (.cons b r)) := by rw [evA]; rfl
theorem e_o1 {c : Ct} {w : W} {a : E} : evOr c (.cons a .nil) w = evE c a w := by rw [evOr]
def oK2 (c : Ct) (as : E) (x : D) (t : Bool) (w : W) : R D := if t then .ok x w else evOr c as w
theorem k_oK2 {c : Ct} {as : E} {x : D} {t : Bool} {w : W} : oK2 c as x t w = if t then .ok x w else evOr c as w := Eq.trans rfl rfl
def oK1 (c : Ct) (as : E) (x : D) (w : W) : R D := (tr x w).bind (oK2 c as x)
theorem k_oK1 {c : Ct} {as : E} {x : D} {w : W} : oK1 c as x w = (tr x w).bind (oK2 c as x) := Eq.trans rfl rfl
theorem e_o2 {c : Ct} {w : W} {a b r : E} : evOr c (.cons a (.cons b r)) w = (evE c a w).bind (oK1 c (.cons b r)) := by rw [evOr]; rfl
def itvK  (x : D) (w : W) : R (List D) := opt (itemsOf x) w
theorem k_itvK  {x : D} {w : W} : itvK x w = opt (itemsOf x) w := Eq.trans rfl rfl
theorem e_itv {c : Ct} {w : W} {a : E} : evI c (.itv a) w = (evE c a w).bind itvK := by rw [evI]; rfl
def rngO (i : Int) : Option (List D) := if rngOk i then some (rangeD 0 i.toNat) else none
def rng1O : D → Option (List D)
  | .int i => if rngOk i then some (rangeD 0 i.toNat) else none
  | _ => none
theorem q_rng1O {i : Int} (h : rngOk i = true) : rng1O (.int i) = some (rangeD 0 i.toNat) := by show (if rngOk i then _ else _) = _; rw [if_pos h]
theorem q_rng1N {n : Nat} (h : n < 1000000000) : rng1O (.int n) = some (rangeD 0 n) := by
  have : rngOk n = true := by
    unfold rngOk
    rw [Bool.and_eq_true, decide_eq_true_eq, decide_eq_true_eq]
    omega
  rw [q_rng1O this, Int.toNat_natCast]
def rng1K  (x : D) (w : W) : R (List D) := opt (rng1O x) w
theorem k_rng1K  {x : D} {w : W} : rng1K x w = opt (rng1O x) w := Eq.trans rfl rfl
theorem e_rng1 {c : Ct} {w : W} {a : E} : evI c (.rng1 a) w = (evE c a w).bind rng1K := by
  rw [evI]
  congr 1
  funext x w1
  cases x <;> try rfl
  show _ = opt (rng1O (.int _)) w1
  dsimp only [rng1O]
  split <;> rfl
def rng2O : D → D → Option (List D)
  | .int i, .int j => if rngOk i && rngOk j then some (rangeD i (j - i).toNat) else none
  | _, _ => none
theorem q_rng2O {i j : Int} (h : rngOk i = true) (h2 : rngOk j = true) : rng2O (.int i) (.int j) = some (rangeD i (j - i).toNat) := by show (if rngOk i && rngOk j then _ else _) = _; rw [h, h2]; rfl
def rng2K2 (x : D) (y : D) (w : W) : R (List D) := opt (rng2O x y) w
theorem k_rng2K2 {x : D} {y : D} {w : W} : rng2K2 x y w = opt (rng2O x y) w := Eq.trans rfl rfl
def rng2K1 (c : Ct) (b : E) (x : D) (w : W) : R (List D) := (evE c b w).bind (rng2K2 x)
theorem k_rng2K1 {c : Ct} {b : E} {x : D} {w : W} : rng2K1 c b x w = (evE c b w).bind (rng2K2 x) := Eq.trans rfl rfl
theorem e_rng2 {c : Ct} {w : W} {a b : E} : evI c (.rng2 a b) w = (evE c a w).bind (rng2K1 c b) := by
  rw [evI]
  congr 1
  funext x w1
  show _ = (evE c b w1).bind _
  congr 1
  funext y w2
  show _ = opt (rng2O x y) w2
  cases x <;> cases y <;> try rfl
  dsimp only [rng2O]
  split <;> rfl
theorem e_o_hole {c : Ct} {w : W}  : evO c .hole w = .ok none w := by rw [evO]
def intO : D → Option (Option Int)
  | .int i => some (some i)
  | _ => none
theorem q_intO {i : Int} : intO (.int i) = some (some i) := Eq.trans rfl rfl
def evOK  (x : D) (w : W) : R (Option Int) := opt (intO x) w
theorem k_evOK  {x : D} {w : W} : evOK x w = opt (intO x) w := Eq.trans rfl rfl
theorem e_o_one {c : Ct} {w : W} {a : E} : evO c (.cons a .nil) w = (evE c a w).bind evOK := by
  rw [evO]
  congr 1
  funext x w1
  cases x <;> rfl
theorem e_c_hole {c : Ct} {w : W}  : evC c .hole w = .ok true w := by rw [evC]
theorem e_c_one {c : Ct} {w : W} {a : E} : evC c (.cons a .nil) w = (evE c a w).bind tr := by rw [evC]
def asgK (i : Nat) (d : D) (w : W) : R Flow := .ok .next (setSl w i (.val d))
theorem k_asgK {i : Nat} {d : D} {w : W} : asgK i d w = .ok .next (setSl w i (.val d)) := Eq.trans rfl rfl
theorem s_asg {fl : Flds} {c : Ct} {w : W} {i : Nat} {e : E} : evS fl c (.asg i e) w = (evE c e w).bind (asgK i) := by rw [evS]; rfl
def ownK (i : Nat) (p : D × Bool) (w : W) : R Flow := .ok .next (setSl w i (asgSl p.1 p.2))
theorem k_ownK {i : Nat} {p : D × Bool} {w : W} : ownK i p w = .ok .next (setSl w i (asgSl p.1 p.2)) := Eq.trans rfl rfl
theorem s_own {fl : Flds} {c : Ct} {w : W} {i : Nat} {e : E} : evS fl c (.own i e) w = (frE c e w).bind (ownK i) := by rw [evS]; rfl
def newK (i : Nat) (p : D × Bool) (w : W) : R Flow := if p.2 && isSeq p.1 then .ok .next { sl := w.sl.set i (.val (.ref w.cs.length)), cs := w.cs ++ [p.1] } else .bad
theorem k_newK {i : Nat} {p : D × Bool} {w : W} : newK i p w = if p.2 && isSeq p.1 then .ok .next { sl := w.sl.set i (.val (.ref w.cs.length)), cs := w.cs ++ [p.1] } else .bad := Eq.trans rfl rfl
theorem s_new {fl : Flds} {c : Ct} {w : W} {i : Nat} {e : E} : evS fl c (.new i e) w = (frE c e w).bind (newK i) := by rw [evS]; rfl
def asgTK (is : List Nat) (x : D) (w : W) : R Flow := setT is x w
theorem k_asgTK {is : List Nat} {x : D} {w : W} : asgTK is x w = setT is x w := Eq.trans rfl rfl
theorem s_asgT {fl : Flds} {c : Ct} {w : W} {is : List Nat} {e : E} : evS fl c (.asgT is e) w = (evE c e w).bind (asgTK is) := by rw [evS]; rfl
def parK2 (i j : Nat) (x : D) (y : D) (w : W) : R Flow := .ok .next (setSl (setSl w i (.val x)) j (.val y))
theorem k_parK2 {i j : Nat} {x : D} {y : D} {w : W} : parK2 i j x y w = .ok .next (setSl (setSl w i (.val x)) j (.val y)) := Eq.trans rfl rfl
def parK1 (c : Ct) (i j : Nat) (b : E) (x : D) (w : W) : R Flow := (evE c b w).bind (parK2 i j x)
theorem k_parK1 {c : Ct} {i j : Nat} {b : E} {x : D} {w : W} : parK1 c i j b x w = (evE c b w).bind (parK2 i j x) := Eq.trans rfl rfl
theorem s_par {fl : Flds} {c : Ct} {w : W} {i j : Nat} {a b : E} : evS fl c (.par i j a b) w = (evE c a w).bind (parK1 c i j b) := by rw [evS]; rfl
def setF (x d : D) (o : D) : Option D := setOf o x d
theorem k_setF {x d : D} {o : D} : setF x d o = setOf o x d := Eq.trans rfl rfl
def sixK3 (i : Nat) (d : D) (x : D) (w : W) : R Flow := modS w i (setF x d)
theorem k_sixK3 {i : Nat} {d : D} {x : D} {w : W} : sixK3 i d x w = modS w i (setF x d) := Eq.trans rfl rfl
def sixK2 (c : Ct) (i : Nat) (k : E) (d : D) (z : D) (w : W) : R Flow := (evE c k w).bind (sixK3 i d)
theorem k_sixK2 {c : Ct} {i : Nat} {k : E} {d : D} {z : D} {w : W} : sixK2 c i k d z w = (evE c k w).bind (sixK3 i d) := Eq.trans rfl rfl
def sixK1 (c : Ct) (i : Nat) (k : E) (d : D) (w : W) : R Flow := (rdB w i).bind (sixK2 c i k d)
theorem k_sixK1 {c : Ct} {i : Nat} {k : E} {d : D} {w : W} : sixK1 c i k d w = (rdB w i).bind (sixK2 c i k d) := Eq.trans rfl rfl
theorem s_setIx {fl : Flds} {c : Ct} {w : W} {i : Nat} {k e : E} : evS fl c (.setIx i k e) w = (evE c e w).bind (sixK1 c i k) := by rw [evS]; rfl
def appK (i : Nat) (d : D) (w : W) : R Flow := modS w i (appOf d)
theorem k_appK {i : Nat} {d : D} {w : W} : appK i d w = modS w i (appOf d) := Eq.trans rfl rfl
theorem s_app {fl : Flds} {c : Ct} {w : W} {i : Nat} {e : E} : evS fl c (.app i e) w = if isL w i then (evE c e w).bind (appK i) else .bad := by rw [evS]; rfl
def exprK  (d : D) (w : W) : R Flow := .ok .next w
theorem k_exprK  {d : D} {w : W} : exprK d w = .ok .next w := Eq.trans rfl rfl
theorem s_expr {fl : Flds} {c : Ct} {w : W} {e : E} : evS fl c (.expr e) w = (evE c e w).bind exprK := by rw [evS]; rfl
noncomputable def iteK2 (fl : Flds) (c : Ct) (a b : S) (u : Bool) (w : W) : R Flow := if u then evS fl c a w else evS fl c b w
theorem k_iteK2 {fl : Flds} {c : Ct} {a b : S} {u : Bool} {w : W} : iteK2 fl c a b u w = if u then evS fl c a w else evS fl c b w := Eq.trans rfl rfl
noncomputable def iteK1 (fl : Flds) (c : Ct) (a b : S) (x : D) (w : W) : R Flow := (tr x w).bind (iteK2 fl c a b)
theorem k_iteK1 {fl : Flds} {c : Ct} {a b : S} {x : D} {w : W} : iteK1 fl c a b x w = (tr x w).bind (iteK2 fl c a b) := Eq.trans rfl rfl
theorem s_ite {fl : Flds} {c : Ct} {w : W} {t : E} {a b : S} : evS fl c (.ite t a b) w = (evE c t w).bind (iteK1 fl c a b) := by rw [evS]; rfl
noncomputable def forB2 (fl : Flds) (c : Ct) (b : S) (f : Flow) (w : W) : R Flow := evS fl c b w
theorem k_forB2 {fl : Flds} {c : Ct} {b : S} {f : Flow} {w : W} : forB2 fl c b f w = evS fl c b w := Eq.trans rfl rfl
noncomputable def forB (fl : Flds) (c : Ct) (is : List Nat) (b : S) (x : D) (w : W) : R Flow := (setT is x w).bind (forB2 fl c b)
theorem k_forB {fl : Flds} {c : Ct} {is : List Nat} {b : S} {x : D} {w : W} : forB fl c is b x w = (setT is x w).bind (forB2 fl c b) := Eq.trans rfl rfl
noncomputable def forK0 (fl : Flds) (c : Ct) (is : List Nat) (b : S) (xs : List D) (w : W) : R Flow := forL (forB fl c is b) xs w
theorem k_forK0 {fl : Flds} {c : Ct} {is : List Nat} {b : S} {xs : List D} {w : W} : forK0 fl c is b xs w = forL (forB fl c is b) xs w := Eq.trans rfl rfl
theorem s_for {fl : Flds} {c : Ct} {w : W} {is : List Nat} {it : E} {b : S} : evS fl c (.for_ is it b) w = (evI c it w).bind (forK0 fl c is b) := by rw [evS]; rfl
def retK  (p : D × Bool) (w : W) : R Flow := .ok (.ret p.1 p.2) w
theorem k_retK  {p : D × Bool} {w : W} : retK p w = .ok (.ret p.1 p.2) w := Eq.trans rfl rfl
theorem s_ret {fl : Flds} {c : Ct} {w : W} {e : E} : evS fl c (.ret e) w = (frR c e w).bind retK := by rw [evS]; rfl
def raisO (C : String) (ds : List D) (w : W) : Option (List String) → R Flow
  | some fs => if fs.length = ds.length then .ex C (fs.zip ds).reverse w else .bad
  | none => .bad
theorem q_raisO {C : String} {ds : List D} {w : W} {fs : List String} : raisO C ds w (some fs) = if fs.length = ds.length then .ex C (fs.zip ds).reverse w else .bad := Eq.trans rfl rfl
def raisK (fl : Flds) (C : String) (ds : List D) (w : W) : R Flow := raisO C ds w (fl C)
theorem k_raisK {fl : Flds} {C : String} {ds : List D} {w : W} : raisK fl C ds w = raisO C ds w (fl C) := Eq.trans rfl rfl
theorem s_rais {fl : Flds} {c : Ct} {w : W} {C : String} {as : E} : evS fl c (.rais C as) w = (evEs c as w).bind (raisK fl C) := by
  rw [evS]
  congr 1
end RX

--noFR
/-! G2: statements, equation by equation; gcd; sizes; lowest terms. -/
namespace RX
open PySem
section
variable {fl : Flds} {c : Ct} {w : W}
theorem ev_retN : evS fl c .retN w = .ok (.ret .non false) w := by rw [evS]
theorem ev_brk : evS fl c .brk w = .ok .brk w := by rw [evS]
theorem ev_cnt : evS fl c .cnt w = .ok .cnt w := by rw [evS]
theorem ev_pass : evS fl c .pass w = .ok .next w := by rw [evS]
theorem ev_nil : evS fl c .nil w = .ok .next w := by rw [evS]
end
theorem lift_ok {d : D} {fr : Bool} {cs : List D} {w : W} : lift (.ok d fr cs) w = .ok d { w with cs := cs } := Eq.trans rfl rfl
theorem lift_ex {C : String} {fs : List (String × D)} {cs : List D} {w : W} : lift (.ex C fs cs) w = .ex C fs { w with cs := cs } := Eq.trans rfl rfl
theorem liftN_ok {d : D} {fr : Bool} {cs : List D} {w : W} : liftN (.ok d fr cs) w = .ok d { w with cs := cs } := Eq.trans rfl rfl
theorem ends_ret {n : Nat} {d : D} {fr : Bool} {w : W} : ends n (.ok (.ret d fr) w) = fin n d fr w.cs := Eq.trans rfl rfl
theorem ends_next {n : Nat} {w : W} : ends n (.ok .next w) = fin n .non false w.cs := Eq.trans rfl rfl
theorem ends_ex {C : String} {fs : List (String × D)} {sl : List Sl} {cs : List D} : ends cs.length (.ex C fs ⟨sl, cs⟩) = .ex C fs cs := if_pos rfl
theorem fin_c1 {d : D} {fr : Bool} {s : D} {r : List D} : fin (r.length + 1) d fr (s :: r) = .ok d fr (s :: r) := fin_eq rfl
theorem exK_c1 {Y : String → List (String × D) → List D → Prop} {C : String} {fs : List (String × D)} {sl : List Sl} {s : D} {r : List D} : exK (r.length + 1) Y C fs ⟨sl, s :: r⟩ = Y C fs (s :: r) := by
  unfold exK
  simp
theorem ends_ex1 {C : String} {fs : List (String × D)} {sl : List Sl} {s : D} {r : List D} : ends (r.length + 1) (.ex C fs ⟨sl, s :: r⟩) = .ex C fs (s :: r) := if_pos rfl
local macro_rules
  | `(tactic| simp! only [$ls,*]) => `(tactic| simp (disch := first | with_reducible assumption | omega) only [ev_cons, seqK_next, seqK_ret, seqK_cnt, seqK_brk, ev_retN, ev_brk, ev_cnt, ev_pass, ev_nil, bind_ok, bind_ex, bind_bad, wp_ok, wp_ex, wp_bad, cwp_ok, cwp_ex, cwp_bad, cwp_ends, flK_ret, flK_next, fin_eq', fin_same, fin_c1, exK_c1, ends_ex1, exK_eq', exK_same, forL_nil, forK_next, forK_cnt, forK_brk, forK_ret, ct_call, ct_lcall, ct_ask, lift_ok, lift_ex, liftN_ok, ends_ret, ends_next, ends_ex, List.getElem?_cons_zero, List.getElem?_cons_succ, List.getElem?_nil, List.set_cons_zero, List.set_cons_succ, List.map_cons, List.map_nil, List.length_cons, List.length_nil, List.cons_append, List.nil_append, List.replicate_succ, List.replicate_zero, Bool.not_true, Bool.not_false, Bool.false_eq_true, if_true, if_false, reduceIte, decide_true, decide_false, decide_eq_true_eq, Bool.true_or, Bool.false_or, Bool.or_true, Bool.or_false, Bool.true_and, Bool.false_and, Bool.and_true, Bool.and_false, Option.map_some, Option.map_none, Option.bind_some, Option.bind_none, Option.getD_some, Option.getD_none, ite_true, ite_false, Nat.sub_self, Nat.reduceSub, Nat.reduceAdd, Nat.reduceMul, Int.reduceAdd, Int.reduceSub, Int.reduceMul, Int.reduceNeg, Int.reduceLT, Int.reduceLE, Int.reduceEq, Int.reduceNe, Int.reduceToNat, Int.reducePow, String.reduceEq, eq_self, ne_eq, not_true_eq_false, not_false_eq_true, Rat.zero_num, Rat.zero_den, Int.cast_ofNat_Int, q_dr_non, q_dr_bl, q_dr_int, q_dr_str, q_dr_tup, q_dr_lst, q_dr_frz, q_dr_dic, q_dr_obj, q_dr_ref, q_dr_fn, q_dr_exc, q_opt_some, q_opt_none, q_tr, q_truth_non, q_truth_bl, q_truth_int, q_truth_str, q_truth_tup, q_truth_lst, q_truth_dic, q_cmp_Lt, q_cmp_LtE, q_cmp_Gt, q_cmp_GtE, q_cmp_Eq, q_cmp_Ne, q_eq_int, q_eq_str, q_eq_bl, q_Is_nn, q_Is_bb, q_Is_bl, q_Is_int, q_Is_str, q_Is_tup, q_Is_lst, q_Is_frz, q_Is_dic, q_Is_obj, q_Is_ref, q_Is_fn, q_IsNot_nn, q_IsNot_bb, q_IsNot_bl, q_IsNot_int, q_IsNot_str, q_IsNot_tup, q_IsNot_lst, q_IsNot_frz, q_IsNot_dic, q_IsNot_obj, q_IsNot_ref, q_IsNot_fn, q_bin_Add, q_bin_Sub, q_bin_Mult, q_bin_FloorDiv, q_bin_Mod, q_bin_Pow, q_bin_Adds, q_bin_Addl, q_b1_len_str, q_b1_len_lst, q_b1_len_frz, q_b1_len_tup, q_b1_abs_int, q_b1_int_int, q_b1_int_bl, q_b1_bool_int, q_b1_bool_bl, q_b1_list_lst, q_b1_list_frz, q_b1_list_tup, q_b1_list_dic, q_b1_lvals_dic, q_b1_tuple_lst, q_b1_tuple_tup, q_b1_bitlen_int, q_b1_upper_str, q_b1_rev_lst, q_b1_all_lst, q_b1_any_lst, q_b1_sum_lst, q_b2_min, q_b2_max, q_b2_join, q_b2_divmod, q_item_lst, q_item_tup, q_item_str, q_item_dici, q_item_dics, q_set_lst, q_set_dic, q_key_i, q_key_s, q_items_lst, q_items_frz, q_items_tup, q_isi_cl_int, q_isi_cl_bl, q_isi_cl_str, q_isi_cl_tup, q_isi_cl_lst, q_isi_cl_dic, q_isi_cl_non, q_isi_ty_int, q_isi_ty_bl, q_isi_ty_str, q_isi_ty_tup, q_isi_ty_lst, q_isi_ty_dic, q_isi_ty_non, q_isi_exc, q_isi_excv, q_isis_1, q_isis_2, q_isl_0, q_isl_1, q_orO, q_plain_int, q_plain_bl, q_plain_str, q_plain_tup, q_plain_lst, q_plain_dic, q_plain_non, q_rdB, q_rdS, q_rdBo_val, q_rdBo_own, q_rdBo_len, q_rdSo_val, q_rdSo_own, q_setSl, q_setT1, q_setT2, q_setSls0, q_setSls1, q_mod1, q_mod2, q_modS, q_modSo_own, q_modSo_ref, q_isL, q_isLo_own, q_isLo_ref, q_isLl, q_app, q_asgSl_lst, q_asgSl_dic, q_asgSlf_non, q_asgSlf_bl, q_asgSlf_int, q_asgSlf_str, q_asgSlf_tup, q_asgSlf_lst, q_asgSlf_frz, q_asgSlf_dic, q_asgSlf_obj, q_asgSlf_ref, q_asgSlf_fn, q_asgSlf_exc, q_asgSlt_int, q_asgSlt_str, q_asgSlt_bl, q_asgSlt_non, q_asgSlt_tup, q_asgSlt_obj, q_asgSlt_ref, q_isSeq_l, q_isSeq_d, q_frK, q_frE_nm, q_frE_bor, q_frE_kI, q_frE_kS, q_frE_kB, q_frE_kN, q_frE_glo, q_frE_neg, q_frE_not, q_frE_and, q_frE_or, q_frE_cmp, q_frE_cmp2, q_frE_ife, q_frE_callv, q_frE_ask, q_frE_bb, q_frE_isi, q_frE_ix, q_frE_tupD, q_frE_attr, q_frE_nope, q_frE_lstD, q_frE_comp, q_frE_slc, q_frE_dicD, q_frE_list, q_frE_lvals, q_frE_rev, q_frE_add, q_frE_Sub, q_frE_Mult, q_frE_FloorDiv, q_frE_Mod, q_frE_Pow, q_frE_b_len, q_frE_b_abs, q_frE_b_int, q_frE_b_tuple, q_frE_b_bitlen, q_frE_b_upper, q_frE_b_all, q_frE_b_any, q_frE_b_sum, q_frE_b_bool, q_liftP_ok, q_liftP_ex, q_frcK, q_frE_call, q_wlP, q_wlX, q_wlQ, q_wp_liftP, q_wp_lift, q_wp_liftN, q_wpK, q_wp_bind, q_lamP, q_lamX, q_cwp_lam, q_frR_nm, q_frRo_own, q_frRo_val, q_frR_bor, q_frR_kI, q_frR_kS, q_frR_kB, q_frR_kN, q_frR_glo, q_frR_neg, q_frR_not, q_frR_and, q_frR_or, q_frR_cmp, q_frR_cmp2, q_frR_ife, q_frR_callv, q_frR_ask, q_frR_bb, q_frR_isi, q_frR_ix, q_frR_tupD, q_frR_attr, q_frR_nope, q_frR_lstD, q_frR_comp, q_frR_slc, q_frR_dicD, q_frR_bu, q_frR_bin, q_frR_call, q_pairs0, q_pairs2, q_pairO, q_mkDic0, q_mkDic1, q_ixl0, q_ixl1, q_ixl2, q_ixl3, q_ixl4, q_ixl5, q_ixl6, q_ixl7, q_ixl8, q_ixl9, q_ixl10, q_ixl11, q_ixl12, q_ixm1, q_ixm2, e_nm, e_bor, e_kI, e_kS, e_kB, e_kN, e_glo, e_nope, k_binK2, k_binK1, e_bin, q_negO, k_negK, e_neg, k_notK2, k_notK1, e_not, k_blK, k_cmpK2, k_cmpK1, e_cmp, k_c2K3, k_c2K2, k_c2K1, e_cmp2, k_ifeK2, k_ifeK1, e_ife, k_callK, e_call, k_cvK, e_callv, k_askT, e_ask, k_buK, e_bu, k_bbK2, k_bbK1, e_bb, k_isiK, e_isi, k_ixK2, k_ixK1, e_ix, q_slcO_l, q_slcO_s, k_slcK3, k_slcK2, k_slcK1, e_slc, k_tupK, e_tupD, k_lstK, e_lstD, k_dicK2, k_dicK, e_dicD, k_someK, k_compK2, k_compF, k_compK3, k_compK1, e_comp, q_attrO, k_attrK, e_attr, e_es0, k_esK2, k_esK1, e_es1, e_and, e_or, e_a1, k_aK2, k_aK1, e_a2, e_o1, k_oK2, k_oK1, e_o2, k_itvK, e_itv, q_rng1O, q_rng1N, k_rng1K, e_rng1, q_rng2O, k_rng2K2, k_rng2K1, e_rng2, e_o_hole, q_intO, k_evOK, e_o_one, e_c_hole, e_c_one, k_asgK, s_asg, k_ownK, s_own, k_newK, s_new, k_asgTK, s_asgT, k_parK2, k_parK1, s_par, k_setF, k_sixK3, k_sixK2, k_sixK1, s_setIx, k_appK, s_app, k_exprK, s_expr, k_iteK2, k_iteK1, s_ite, k_forB2, k_forB, k_forK0, s_for, k_retK, s_ret, q_raisO, k_raisK, s_rais, $ls,*])
local macro_rules
  | `(tactic| simp! [$ls,*]) => `(tactic| simp (disch := first | with_reducible assumption | omega) [ev_cons, seqK_next, seqK_ret, seqK_cnt, seqK_brk, ev_retN, ev_brk, ev_cnt, ev_pass, ev_nil, bind_ok, bind_ex, bind_bad, wp_ok, wp_ex, wp_bad, cwp_ok, cwp_ex, cwp_bad, cwp_ends, flK_ret, flK_next, fin_eq', fin_same, fin_c1, exK_c1, ends_ex1, exK_eq', exK_same, forL_nil, forK_next, forK_cnt, forK_brk, forK_ret, ct_call, ct_lcall, ct_ask, lift_ok, lift_ex, liftN_ok, ends_ret, ends_next, ends_ex, List.getElem?_cons_zero, List.getElem?_cons_succ, List.getElem?_nil, List.set_cons_zero, List.set_cons_succ, List.map_cons, List.map_nil, List.length_cons, List.length_nil, List.cons_append, List.nil_append, List.replicate_succ, List.replicate_zero, Bool.not_true, Bool.not_false, Bool.false_eq_true, if_true, if_false, reduceIte, decide_true, decide_false, decide_eq_true_eq, Bool.true_or, Bool.false_or, Bool.or_true, Bool.or_false, Bool.true_and, Bool.false_and, Bool.and_true, Bool.and_false, Option.map_some, Option.map_none, Option.bind_some, Option.bind_none, Option.getD_some, Option.getD_none, ite_true, ite_false, Nat.sub_self, Nat.reduceSub, Nat.reduceAdd, Nat.reduceMul, Int.reduceAdd, Int.reduceSub, Int.reduceMul, Int.reduceNeg, Int.reduceLT, Int.reduceLE, Int.reduceEq, Int.reduceNe, Int.reduceToNat, Int.reducePow, String.reduceEq, eq_self, ne_eq, not_true_eq_false, not_false_eq_true, Rat.zero_num, Rat.zero_den, Int.cast_ofNat_Int, q_dr_non, q_dr_bl, q_dr_int, q_dr_str, q_dr_tup, q_dr_lst, q_dr_frz, q_dr_dic, q_dr_obj, q_dr_ref, q_dr_fn, q_dr_exc, q_opt_some, q_opt_none, q_tr, q_truth_non, q_truth_bl, q_truth_int, q_truth_str, q_truth_tup, q_truth_lst, q_truth_dic, q_cmp_Lt, q_cmp_LtE, q_cmp_Gt, q_cmp_GtE, q_cmp_Eq, q_cmp_Ne, q_eq_int, q_eq_str, q_eq_bl, q_Is_nn, q_Is_bb, q_Is_bl, q_Is_int, q_Is_str, q_Is_tup, q_Is_lst, q_Is_frz, q_Is_dic, q_Is_obj, q_Is_ref, q_Is_fn, q_IsNot_nn, q_IsNot_bb, q_IsNot_bl, q_IsNot_int, q_IsNot_str, q_IsNot_tup, q_IsNot_lst, q_IsNot_frz, q_IsNot_dic, q_IsNot_obj, q_IsNot_ref, q_IsNot_fn, q_bin_Add, q_bin_Sub, q_bin_Mult, q_bin_FloorDiv, q_bin_Mod, q_bin_Pow, q_bin_Adds, q_bin_Addl, q_b1_len_str, q_b1_len_lst, q_b1_len_frz, q_b1_len_tup, q_b1_abs_int, q_b1_int_int, q_b1_int_bl, q_b1_bool_int, q_b1_bool_bl, q_b1_list_lst, q_b1_list_frz, q_b1_list_tup, q_b1_list_dic, q_b1_lvals_dic, q_b1_tuple_lst, q_b1_tuple_tup, q_b1_bitlen_int, q_b1_upper_str, q_b1_rev_lst, q_b1_all_lst, q_b1_any_lst, q_b1_sum_lst, q_b2_min, q_b2_max, q_b2_join, q_b2_divmod, q_item_lst, q_item_tup, q_item_str, q_item_dici, q_item_dics, q_set_lst, q_set_dic, q_key_i, q_key_s, q_items_lst, q_items_frz, q_items_tup, q_isi_cl_int, q_isi_cl_bl, q_isi_cl_str, q_isi_cl_tup, q_isi_cl_lst, q_isi_cl_dic, q_isi_cl_non, q_isi_ty_int, q_isi_ty_bl, q_isi_ty_str, q_isi_ty_tup, q_isi_ty_lst, q_isi_ty_dic, q_isi_ty_non, q_isi_exc, q_isi_excv, q_isis_1, q_isis_2, q_isl_0, q_isl_1, q_orO, q_plain_int, q_plain_bl, q_plain_str, q_plain_tup, q_plain_lst, q_plain_dic, q_plain_non, q_rdB, q_rdS, q_rdBo_val, q_rdBo_own, q_rdBo_len, q_rdSo_val, q_rdSo_own, q_setSl, q_setT1, q_setT2, q_setSls0, q_setSls1, q_mod1, q_mod2, q_modS, q_modSo_own, q_modSo_ref, q_isL, q_isLo_own, q_isLo_ref, q_isLl, q_app, q_asgSl_lst, q_asgSl_dic, q_asgSlf_non, q_asgSlf_bl, q_asgSlf_int, q_asgSlf_str, q_asgSlf_tup, q_asgSlf_lst, q_asgSlf_frz, q_asgSlf_dic, q_asgSlf_obj, q_asgSlf_ref, q_asgSlf_fn, q_asgSlf_exc, q_asgSlt_int, q_asgSlt_str, q_asgSlt_bl, q_asgSlt_non, q_asgSlt_tup, q_asgSlt_obj, q_asgSlt_ref, q_isSeq_l, q_isSeq_d, q_frK, q_frE_nm, q_frE_bor, q_frE_kI, q_frE_kS, q_frE_kB, q_frE_kN, q_frE_glo, q_frE_neg, q_frE_not, q_frE_and, q_frE_or, q_frE_cmp, q_frE_cmp2, q_frE_ife, q_frE_callv, q_frE_ask, q_frE_bb, q_frE_isi, q_frE_ix, q_frE_tupD, q_frE_attr, q_frE_nope, q_frE_lstD, q_frE_comp, q_frE_slc, q_frE_dicD, q_frE_list, q_frE_lvals, q_frE_rev, q_frE_add, q_frE_Sub, q_frE_Mult, q_frE_FloorDiv, q_frE_Mod, q_frE_Pow, q_frE_b_len, q_frE_b_abs, q_frE_b_int, q_frE_b_tuple, q_frE_b_bitlen, q_frE_b_upper, q_frE_b_all, q_frE_b_any, q_frE_b_sum, q_frE_b_bool, q_liftP_ok, q_liftP_ex, q_frcK, q_frE_call, q_wlP, q_wlX, q_wlQ, q_wp_liftP, q_wp_lift, q_wp_liftN, q_wpK, q_wp_bind, q_lamP, q_lamX, q_cwp_lam, q_frR_nm, q_frRo_own, q_frRo_val, q_frR_bor, q_frR_kI, q_frR_kS, q_frR_kB, q_frR_kN, q_frR_glo, q_frR_neg, q_frR_not, q_frR_and, q_frR_or, q_frR_cmp, q_frR_cmp2, q_frR_ife, q_frR_callv, q_frR_ask, q_frR_bb, q_frR_isi, q_frR_ix, q_frR_tupD, q_frR_attr, q_frR_nope, q_frR_lstD, q_frR_comp, q_frR_slc, q_frR_dicD, q_frR_bu, q_frR_bin, q_frR_call, q_pairs0, q_pairs2, q_pairO, q_mkDic0, q_mkDic1, q_ixl0, q_ixl1, q_ixl2, q_ixl3, q_ixl4, q_ixl5, q_ixl6, q_ixl7, q_ixl8, q_ixl9, q_ixl10, q_ixl11, q_ixl12, q_ixm1, q_ixm2, e_nm, e_bor, e_kI, e_kS, e_kB, e_kN, e_glo, e_nope, k_binK2, k_binK1, e_bin, q_negO, k_negK, e_neg, k_notK2, k_notK1, e_not, k_blK, k_cmpK2, k_cmpK1, e_cmp, k_c2K3, k_c2K2, k_c2K1, e_cmp2, k_ifeK2, k_ifeK1, e_ife, k_callK, e_call, k_cvK, e_callv, k_askT, e_ask, k_buK, e_bu, k_bbK2, k_bbK1, e_bb, k_isiK, e_isi, k_ixK2, k_ixK1, e_ix, q_slcO_l, q_slcO_s, k_slcK3, k_slcK2, k_slcK1, e_slc, k_tupK, e_tupD, k_lstK, e_lstD, k_dicK2, k_dicK, e_dicD, k_someK, k_compK2, k_compF, k_compK3, k_compK1, e_comp, q_attrO, k_attrK, e_attr, e_es0, k_esK2, k_esK1, e_es1, e_and, e_or, e_a1, k_aK2, k_aK1, e_a2, e_o1, k_oK2, k_oK1, e_o2, k_itvK, e_itv, q_rng1O, q_rng1N, k_rng1K, e_rng1, q_rng2O, k_rng2K2, k_rng2K1, e_rng2, e_o_hole, q_intO, k_evOK, e_o_one, e_c_hole, e_c_one, k_asgK, s_asg, k_ownK, s_own, k_newK, s_new, k_asgTK, s_asgT, k_parK2, k_parK1, s_par, k_setF, k_sixK3, k_sixK2, k_sixK1, s_setIx, k_appK, s_app, k_exprK, s_expr, k_iteK2, k_iteK1, s_ite, k_forB2, k_forB, k_forK0, s_for, k_retK, s_ret, q_raisO, k_raisK, s_rais, $ls,*])
/-! ### gcd -/
theorem fmod_nn {a b : Int} (hb : 0 ≤ b) : a.fmod b = a % b := by
  rw [Int.fmod_eq_emod_of_nonneg a hb]
theorem gcd_step (a b : Int) (ha : 0 ≤ a) (hb : 0 ≤ b) : Int.gcd b (a % b) = Int.gcd a b := by
  obtain ⟨x, rfl⟩ := Int.eq_ofNat_of_zero_le ha
  obtain ⟨y, rfl⟩ := Int.eq_ofNat_of_zero_le hb
  show Nat.gcd y (((x : Int) % (y : Int)).natAbs) = Nat.gcd x y
  have e : (((x : Int) % (y : Int)).natAbs) = x % y := by
    rw [← Int.natCast_emod]
    rfl
  rw [e, Nat.gcd_comm, ← Nat.gcd_rec, Nat.gcd_comm]
theorem gcd_loop {c : Ct} {fl : Flds} {cs : List D} {m : E} {b : S}
    (h1 : ∀ a : Int, tst c m ⟨[.val (.int a), .val (.int 0)], cs⟩ = .ok false ⟨[.val (.int a), .val (.int 0)], cs⟩)
    (h2 : ∀ a b : Int, 0 < b → tst c m ⟨[.val (.int a), .val (.int b)], cs⟩ = .ok true ⟨[.val (.int a), .val (.int b)], cs⟩)
    (h3 : ∀ x y : Int, 0 < y → evS fl c b ⟨[.val (.int x), .val (.int y)], cs⟩ = .ok .next ⟨[.val (.int y), .val (.int (x % y))], cs⟩) : ∀ (n : Nat) (x y : Int), 0 ≤ x → 0 ≤ y → y.toNat = n →
    evS fl c (.whl m b) ⟨[.val (.int x), .val (.int y)], cs⟩ = .ok .next ⟨[.val (.int (Int.gcd x y)), .val (.int 0)], cs⟩ := by
  intro n
  induction n using Nat.strongRecOn with
  | _ n ih =>
    intro a b ha hb hn
    by_cases h0 : b = 0
    · subst h0
      rw [whl_end (h1 a), Int.gcd_zero_right]
      simp
      omega
    · have hp : 0 < b := by omega
      rw [whl_next (h2 a b hp) (h3 a b hp)]
      rw [ih (a % b).toNat (by have := Int.emod_lt_of_pos a hp; have := Int.emod_nonneg a h0; omega) b (a % b) hb (Int.emod_nonneg a h0) rfl]
      rw [gcd_step a b ha hb]
theorem abs_if (a : Int) : (if a < 0 then -a else a) = (a.natAbs : Int) := by
  split <;> omega
theorem ev_common_divisor {t : Tx} (h : t.G "common_divisor" = some b_common_divisor) {k : Nat} (hk : 3 ≤ k) (a b : Int) (cs : List D) : callN t k "common_divisor" [.int a, .int b] cs = .ok (.int (Int.gcd a b)) false cs := by
  obtain ⟨j, rfl⟩ := lvl hk
  rw [call_of h rfl rfl]
  simp! only [b_common_divisor, abs_if, Nat.sub_self]
  rw [gcd_loop (fun a => by simp! [tst]) (fun a b hb => by simp! [tst, hb, Int.ne_of_gt hb]) (fun x y hy => by simp! [Int.ne_of_gt hy, fmod_nn (Int.le_of_lt hy)]) _ (a.natAbs : Int) (b.natAbs : Int) (by omega) (by omega) rfl]
  simp! only []
  simp [Int.gcd]
theorem ev_law_gcd {t : Tx} (h : t.G "_law_gcd" = some b_law_gcd) {k : Nat} (hk : 3 ≤ k) (a b : Int) (cs : List D) : callN t k "_law_gcd" [.int a, .int b] cs = .ok (.int (Int.gcd a b)) false cs := by
  obtain ⟨j, rfl⟩ := lvl hk
  rw [call_of h rfl rfl]
  simp! only [b_law_gcd, abs_if, Nat.sub_self]
  rw [gcd_loop (fun a => by simp! [tst]) (fun a b hb => by simp! [tst, hb, Int.ne_of_gt hb]) (fun x y hy => by simp! [Int.ne_of_gt hy, fmod_nn (Int.le_of_lt hy)]) _ (a.natAbs : Int) (b.natAbs : Int) (by omega) (by omega) rfl]
  simp! only []
  simp [Int.gcd]
/-! ### sizes -/
/-- x has at most n bits -/
structure Sm (n : Nat) (x : Int) : Prop where
  h : x.natAbs < 2 ^ n
theorem Sm_iff {n : Nat} {x : Int} : Sm n x ↔ x.natAbs < 2 ^ n := ⟨fun h => h.h, fun h => ⟨h⟩⟩
theorem Sm.mono {n m : Nat} {x : Int} (h : Sm n x) (hm : n ≤ m) : Sm m x := ⟨Nat.lt_of_lt_of_le h.h (Nat.pow_le_pow_right (by decide) hm)⟩
theorem log_lt {n x : Nat} (hx : x ≠ 0) (h : x < 2 ^ n) : x.log2 < n := (Nat.log2_lt hx).mpr h
theorem bits_of {n : Nat} {x : Int} (h : Sm n x) : Builtin.Int.intBits x ≤ n := by
  unfold Builtin.Int.intBits
  by_cases h0 : x = 0
  · subst h0
    simp
  · have : (x == 0) = false := by simpa using h0
    rw [this]
    simp only [Bool.false_eq_true, if_false]
    exact log_lt (by omega) h.h
theorem mulOk_of {n m : Nat} {x y : Int} (hx : Sm n x) (hy : Sm m y) (hl : n + m ≤ 134217728) : mulOk x y = true := by
  unfold mulOk
  have := bits_of hx
  have := bits_of hy
  exact decide_eq_true (by omega)
theorem divOk_of {x y : Int} (h0 : y ≠ 0) (hy : Sm 9000 y) : divOk x y = true := by
  unfold divOk
  have hd : Builtin.divisionGoesByPylong x y = false := by
    unfold Builtin.divisionGoesByPylong
    have e : (y == 0) = false := by simpa using h0
    have l : y.natAbs.log2 < 9000 := log_lt (by omega) hy.h
    have : ¬ (y.natAbs.log2 / 30 + 1 > 300) := by omega
    simp [e, this]
  rw [hd]
  simp [h0]
theorem Sm.mul {n m : Nat} {x y : Int} (hx : Sm n x) (hy : Sm m y) : Sm (n + m) (x * y) := by
  simp only [Sm_iff] at *
  rw [Int.natAbs_mul, Nat.pow_add]
  exact Nat.mul_lt_mul'' hx hy
theorem Sm.add {n : Nat} {x y : Int} (hx : Sm n x) (hy : Sm n y) : Sm (n + 1) (x + y) := by
  simp only [Sm_iff] at *
  have := Int.natAbs_add_le x y
  rw [Nat.pow_succ]
  omega
theorem Sm.neg {n : Nat} {x : Int} (hx : Sm n x) : Sm n (-x) := by
  simp only [Sm_iff] at *
  rw [Int.natAbs_neg]
  exact hx
theorem Sm.sub {n : Nat} {x y : Int} (hx : Sm n x) (hy : Sm n y) : Sm (n + 1) (x - y) := by
  rw [Int.sub_eq_add_neg]
  exact hx.add hy.neg
theorem Sm.le {n : Nat} {x y : Int} (hx : Sm n x) (h : y.natAbs ≤ x.natAbs) : Sm n y := ⟨Nat.lt_of_le_of_lt h hx.h⟩
theorem Sm.of {n : Nat} {x : Int} {b : Nat} (h : x.natAbs ≤ b) (hb : b < 2 ^ n) : Sm n x := ⟨Nat.lt_of_le_of_lt h hb⟩
end RX

--noFR
/-! G3: fractions as rationals. -/
namespace RX
open PySem
/-- the text has this def -/
class Has (t : Tx) (f : String) (d : Df) : Prop where
  h : t.G f = some d
theorem call_has {t : Tx} {f : String} {d : Df} [hG : Has t f d] {ds cs : List D} {k : Nat} (hk : 3 ≤ k) (hd : d.dfl = []) (hn : ds.length = d.np) : callN t k f ds cs = ends cs.length (evS t.fl (ctOf t (lev t (k - 1))) d.body ⟨ds.map Sl.val ++ List.replicate (d.ns - d.np) .no, cs⟩) := by
  obtain ⟨j, rfl⟩ := lvl hk
  exact call_of hG.h hd hn
/-- a fraction -/
def frD (x : Rat) : D := .tup [.int x.num, .int x.den]
theorem fd_neg {g c : Int} (hg : g ≠ 0) : (g * c).fdiv (-g) = -c := by
  have : g * c = (-g) * (-c) := by rw [Int.neg_mul_neg]
  rw [this, Int.mul_fdiv_cancel_left _ (by omega)]
theorem low_num (p q : Int) (hq : q ≠ 0) : p.fdiv (if q < 0 then -(Int.gcd p q : Int) else (Int.gcd p q : Int)) = (Rat.divInt p q).num := by
  rw [Rat.num_divInt, Int.gcd_comm q p]
  have hg : (Int.gcd p q : Int) ≠ 0 := by
    intro h
    have := (Int.gcd_eq_zero_iff.mp (by exact_mod_cast h)).2
    exact hq this
  have hd : (Int.gcd p q : Int) ∣ p := Int.gcd_dvd_left ..
  obtain ⟨c, hc⟩ := hd
  generalize (Int.gcd p q : Int) = g at hc hg
  subst hc
  split
  · rename_i hn
    rw [Int.sign_eq_neg_one_of_neg hn, fd_neg hg]
    have : -1 * (g * c) = g * (-c) := by rw [Int.neg_one_mul, Int.mul_neg]
    rw [this, Int.mul_ediv_cancel_left _ hg]
  · rename_i hn
    rw [Int.sign_eq_one_of_pos (by omega), Int.one_mul]
    rw [Int.mul_fdiv_cancel_left _ hg, Int.mul_ediv_cancel_left _ hg]
theorem low_den (p q : Int) (hq : q ≠ 0) : q.fdiv (if q < 0 then -(Int.gcd p q : Int) else (Int.gcd p q : Int)) = ((Rat.divInt p q).den : Int) := by
  rw [Rat.den_divInt, if_neg hq, Int.gcd_comm q p]
  have hg : (Int.gcd p q : Int) ≠ 0 := by
    intro h
    have := (Int.gcd_eq_zero_iff.mp (by exact_mod_cast h)).2
    exact hq this
  have hd : (Int.gcd p q : Int) ∣ q := Int.gcd_dvd_right ..
  obtain ⟨c, hc⟩ := hd
  have ha : (q.natAbs : Int) = if q < 0 then -q else q := by split <;> omega
  rw [Int.natCast_ediv, ha]
  generalize (Int.gcd p q : Int) = g at hc hg
  subst hc
  split
  · rw [fd_neg hg, ← Int.mul_neg, Int.mul_ediv_cancel_left _ hg]
  · rw [Int.mul_fdiv_cancel_left _ hg, Int.mul_ediv_cancel_left _ hg]
/-! sizes of rationals -/
def Sz (n : Nat) (x : Rat) : Prop := Sm n x.num ∧ Sm n x.den
theorem Sz.mono {n m : Nat} {x : Rat} (h : Sz n x) (hm : n ≤ m) : Sz m x := ⟨h.1.mono hm, h.2.mono hm⟩
theorem Sm.cast {n : Nat} {x : Int} (h : Sm n x) {k : Nat} (hk : n ≤ k) : Sm k x := h.mono hk
theorem Sz.divInt {n : Nat} {p q : Int} (hp : Sm n p) (hq : Sm n q) (h0 : q ≠ 0) : Sz n (Rat.divInt p q) := by
  constructor
  · rw [Rat.num_divInt]
    refine hp.le ?_
    have : ((q.sign * p) / (q.gcd p : Int)).natAbs ≤ (q.sign * p).natAbs := by
      rw [Int.natAbs_ediv_of_dvd (by exact Int.dvd_mul_of_dvd_right (Int.gcd_dvd_right ..))]
      exact Nat.div_le_self _ _
    refine Nat.le_trans this ?_
    rw [Int.natAbs_mul]
    rw [Int.natAbs_sign_of_ne_zero h0, Nat.one_mul]
    exact Nat.le_refl _
  · rw [Rat.den_divInt, if_neg h0]
    refine hq.le ?_
    rw [Int.natAbs_natCast]
    exact Nat.div_le_self _ _
theorem num_bd {x : Rat} {n : Nat} (h : Sz n x) : Sm n x.num := h.1
theorem den_bd {x : Rat} {n : Nat} (h : Sz n x) : Sm n x.den := h.2
theorem den_ne (x : Rat) : (x.den : Int) ≠ 0 := by
  have := x.den_nz
  omega
theorem den_pos (x : Rat) : (0 : Int) < x.den := by
  have := x.den_nz
  omega
theorem Sm.add' {n m : Nat} {x y : Int} (hx : Sm n x) (hy : Sm m y) : Sm (max n m + 1) (x + y) := (hx.mono (Nat.le_max_left _ _)).add (hy.mono (Nat.le_max_right _ _))
theorem Sm.sub' {n m : Nat} {x y : Int} (hx : Sm n x) (hy : Sm m y) : Sm (max n m + 1) (x - y) := (hx.mono (Nat.le_max_left _ _)).sub (hy.mono (Nat.le_max_right _ _))
theorem add_div (x y : Rat) : Rat.divInt (x.num * y.den + y.num * x.den) (x.den * y.den) = x + y := by
  rw [Rat.add_def', ← Int.natCast_mul, Rat.divInt_ofNat]
theorem sub_div (x y : Rat) : Rat.divInt (x.num * y.den - y.num * x.den) (x.den * y.den) = x - y := by
  rw [Rat.sub_def', ← Int.natCast_mul, Rat.divInt_ofNat]
theorem mul_div (x y : Rat) : Rat.divInt (x.num * y.num) (x.den * y.den) = x * y := by
  rw [Rat.mul_def', ← Int.natCast_mul, Rat.divInt_ofNat]
theorem div_div (x y : Rat) (h : y ≠ 0) : Rat.divInt (x.num * y.den) (x.den * y.num) = x / y := by
  rw [Rat.div_def, Rat.inv_def]
  have := Rat.divInt_mul_divInt x.num y.den (d₁ := x.den) (d₂ := y.num)
  rw [Rat.num_divInt_den] at this
  exact this.symm
theorem Sz.add {n m : Nat} {x y : Rat} (hx : Sz n x) (hy : Sz m y) : Sz (n + m + 1) (x + y) := by
  rw [← add_div]
  refine .divInt ?_ ((hx.2.mul hy.2).mono (by omega)) (Int.mul_ne_zero (den_ne x) (den_ne y))
  exact ((hx.1.mul hy.2)).add ((hy.1.mul hx.2).mono (by omega))
theorem Sz.sub {n m : Nat} {x y : Rat} (hx : Sz n x) (hy : Sz m y) : Sz (n + m + 1) (x - y) := by
  rw [← sub_div]
  refine .divInt ?_ ((hx.2.mul hy.2).mono (by omega)) (Int.mul_ne_zero (den_ne x) (den_ne y))
  exact ((hx.1.mul hy.2)).sub ((hy.1.mul hx.2).mono (by omega))
theorem Sz.mul {n m : Nat} {x y : Rat} (hx : Sz n x) (hy : Sz m y) : Sz (n + m) (x * y) := by
  rw [← mul_div]
  exact .divInt (hx.1.mul hy.1) (hx.2.mul hy.2) (Int.mul_ne_zero (den_ne x) (den_ne y))
theorem num_ne {x : Rat} (h : x ≠ 0) : x.num ≠ 0 := fun z => h (Rat.num_eq_zero.mp z)
theorem Sz.div {n m : Nat} {x y : Rat} (hx : Sz n x) (hy : Sz m y) (h : y ≠ 0) : Sz (n + m) (x / y) := by
  rw [← div_div x y h]
  exact .divInt (hx.1.mul hy.2) (hx.2.mul hy.1) (Int.mul_ne_zero (den_ne x) (num_ne h))
theorem Sz.neg {n : Nat} {x : Rat} (hx : Sz n x) : Sz n (-x) := ⟨hx.1.neg, hx.2⟩
/-! fractions among the data -/
def isFr : D → Bool
  | .tup [.int p, .int q] => decide (1 ≤ q) && decide (Int.gcd p q = 1)
  | _ => false
theorem isFr_frD (x : Rat) : isFr (frD x) = true := by
  have h := x.reduced
  have := x.den_nz
  unfold frD isFr
  have e : Int.gcd x.num x.den = 1 := by
    unfold Int.gcd
    rw [Int.natAbs_natCast]
    exact h
  simp [e]
  omega
theorem isFr_ex {d : D} (h : isFr d = true) : ∃ x, d = frD x := by
  unfold isFr at h
  split at h
  · rename_i p q
    simp only [Bool.and_eq_true, decide_eq_true_eq] at h
    obtain ⟨h1, h2⟩ := h
    obtain ⟨n, rfl⟩ := Int.eq_ofNat_of_zero_le (a := q) (by omega)
    refine ⟨⟨p, n, by omega, ?_⟩, rfl⟩
    unfold Int.gcd at h2
    rw [Int.natAbs_natCast] at h2
    exact h2
  · cases h
theorem frD_inj {x y : Rat} (h : frD x = frD y) : x = y := by
  unfold frD at h
  injection h with h
  injection h with h1 h
  injection h with h2 h
  injection h1 with h1
  injection h2 with h2
  exact Rat.ext h1 (by exact_mod_cast h2)
end RX

--noFR
/-! G4: the program's fractions. -/
namespace RX
open PySem
local macro_rules
  | `(tactic| simp! only [$ls,*]) => `(tactic| simp (disch := first | with_reducible assumption | omega) only [ev_cons, seqK_next, seqK_ret, seqK_cnt, seqK_brk, ev_retN, ev_brk, ev_cnt, ev_pass, ev_nil, bind_ok, bind_ex, bind_bad, wp_ok, wp_ex, wp_bad, cwp_ok, cwp_ex, cwp_bad, cwp_ends, flK_ret, flK_next, fin_eq', fin_same, fin_c1, exK_c1, ends_ex1, exK_eq', exK_same, forL_nil, forK_next, forK_cnt, forK_brk, forK_ret, ct_call, ct_lcall, ct_ask, lift_ok, lift_ex, liftN_ok, ends_ret, ends_next, ends_ex, List.getElem?_cons_zero, List.getElem?_cons_succ, List.getElem?_nil, List.set_cons_zero, List.set_cons_succ, List.map_cons, List.map_nil, List.length_cons, List.length_nil, List.cons_append, List.nil_append, List.replicate_succ, List.replicate_zero, Bool.not_true, Bool.not_false, Bool.false_eq_true, if_true, if_false, reduceIte, decide_true, decide_false, decide_eq_true_eq, Bool.true_or, Bool.false_or, Bool.or_true, Bool.or_false, Bool.true_and, Bool.false_and, Bool.and_true, Bool.and_false, Option.map_some, Option.map_none, Option.bind_some, Option.bind_none, Option.getD_some, Option.getD_none, ite_true, ite_false, Nat.sub_self, Nat.reduceSub, Nat.reduceAdd, Nat.reduceMul, Int.reduceAdd, Int.reduceSub, Int.reduceMul, Int.reduceNeg, Int.reduceLT, Int.reduceLE, Int.reduceEq, Int.reduceNe, Int.reduceToNat, Int.reducePow, String.reduceEq, eq_self, ne_eq, not_true_eq_false, not_false_eq_true, Rat.zero_num, Rat.zero_den, Int.cast_ofNat_Int, q_dr_non, q_dr_bl, q_dr_int, q_dr_str, q_dr_tup, q_dr_lst, q_dr_frz, q_dr_dic, q_dr_obj, q_dr_ref, q_dr_fn, q_dr_exc, q_opt_some, q_opt_none, q_tr, q_truth_non, q_truth_bl, q_truth_int, q_truth_str, q_truth_tup, q_truth_lst, q_truth_dic, q_cmp_Lt, q_cmp_LtE, q_cmp_Gt, q_cmp_GtE, q_cmp_Eq, q_cmp_Ne, q_eq_int, q_eq_str, q_eq_bl, q_Is_nn, q_Is_bb, q_Is_bl, q_Is_int, q_Is_str, q_Is_tup, q_Is_lst, q_Is_frz, q_Is_dic, q_Is_obj, q_Is_ref, q_Is_fn, q_IsNot_nn, q_IsNot_bb, q_IsNot_bl, q_IsNot_int, q_IsNot_str, q_IsNot_tup, q_IsNot_lst, q_IsNot_frz, q_IsNot_dic, q_IsNot_obj, q_IsNot_ref, q_IsNot_fn, q_bin_Add, q_bin_Sub, q_bin_Mult, q_bin_FloorDiv, q_bin_Mod, q_bin_Pow, q_bin_Adds, q_bin_Addl, q_b1_len_str, q_b1_len_lst, q_b1_len_frz, q_b1_len_tup, q_b1_abs_int, q_b1_int_int, q_b1_int_bl, q_b1_bool_int, q_b1_bool_bl, q_b1_list_lst, q_b1_list_frz, q_b1_list_tup, q_b1_list_dic, q_b1_lvals_dic, q_b1_tuple_lst, q_b1_tuple_tup, q_b1_bitlen_int, q_b1_upper_str, q_b1_rev_lst, q_b1_all_lst, q_b1_any_lst, q_b1_sum_lst, q_b2_min, q_b2_max, q_b2_join, q_b2_divmod, q_item_lst, q_item_tup, q_item_str, q_item_dici, q_item_dics, q_set_lst, q_set_dic, q_key_i, q_key_s, q_items_lst, q_items_frz, q_items_tup, q_isi_cl_int, q_isi_cl_bl, q_isi_cl_str, q_isi_cl_tup, q_isi_cl_lst, q_isi_cl_dic, q_isi_cl_non, q_isi_ty_int, q_isi_ty_bl, q_isi_ty_str, q_isi_ty_tup, q_isi_ty_lst, q_isi_ty_dic, q_isi_ty_non, q_isi_exc, q_isi_excv, q_isis_1, q_isis_2, q_isl_0, q_isl_1, q_orO, q_plain_int, q_plain_bl, q_plain_str, q_plain_tup, q_plain_lst, q_plain_dic, q_plain_non, q_rdB, q_rdS, q_rdBo_val, q_rdBo_own, q_rdBo_len, q_rdSo_val, q_rdSo_own, q_setSl, q_setT1, q_setT2, q_setSls0, q_setSls1, q_mod1, q_mod2, q_modS, q_modSo_own, q_modSo_ref, q_isL, q_isLo_own, q_isLo_ref, q_isLl, q_app, q_asgSl_lst, q_asgSl_dic, q_asgSlf_non, q_asgSlf_bl, q_asgSlf_int, q_asgSlf_str, q_asgSlf_tup, q_asgSlf_lst, q_asgSlf_frz, q_asgSlf_dic, q_asgSlf_obj, q_asgSlf_ref, q_asgSlf_fn, q_asgSlf_exc, q_asgSlt_int, q_asgSlt_str, q_asgSlt_bl, q_asgSlt_non, q_asgSlt_tup, q_asgSlt_obj, q_asgSlt_ref, q_isSeq_l, q_isSeq_d, q_frK, q_frE_nm, q_frE_bor, q_frE_kI, q_frE_kS, q_frE_kB, q_frE_kN, q_frE_glo, q_frE_neg, q_frE_not, q_frE_and, q_frE_or, q_frE_cmp, q_frE_cmp2, q_frE_ife, q_frE_callv, q_frE_ask, q_frE_bb, q_frE_isi, q_frE_ix, q_frE_tupD, q_frE_attr, q_frE_nope, q_frE_lstD, q_frE_comp, q_frE_slc, q_frE_dicD, q_frE_list, q_frE_lvals, q_frE_rev, q_frE_add, q_frE_Sub, q_frE_Mult, q_frE_FloorDiv, q_frE_Mod, q_frE_Pow, q_frE_b_len, q_frE_b_abs, q_frE_b_int, q_frE_b_tuple, q_frE_b_bitlen, q_frE_b_upper, q_frE_b_all, q_frE_b_any, q_frE_b_sum, q_frE_b_bool, q_liftP_ok, q_liftP_ex, q_frcK, q_frE_call, q_wlP, q_wlX, q_wlQ, q_wp_liftP, q_wp_lift, q_wp_liftN, q_wpK, q_wp_bind, q_lamP, q_lamX, q_cwp_lam, q_frR_nm, q_frRo_own, q_frRo_val, q_frR_bor, q_frR_kI, q_frR_kS, q_frR_kB, q_frR_kN, q_frR_glo, q_frR_neg, q_frR_not, q_frR_and, q_frR_or, q_frR_cmp, q_frR_cmp2, q_frR_ife, q_frR_callv, q_frR_ask, q_frR_bb, q_frR_isi, q_frR_ix, q_frR_tupD, q_frR_attr, q_frR_nope, q_frR_lstD, q_frR_comp, q_frR_slc, q_frR_dicD, q_frR_bu, q_frR_bin, q_frR_call, q_pairs0, q_pairs2, q_pairO, q_mkDic0, q_mkDic1, q_ixl0, q_ixl1, q_ixl2, q_ixl3, q_ixl4, q_ixl5, q_ixl6, q_ixl7, q_ixl8, q_ixl9, q_ixl10, q_ixl11, q_ixl12, q_ixm1, q_ixm2, e_nm, e_bor, e_kI, e_kS, e_kB, e_kN, e_glo, e_nope, k_binK2, k_binK1, e_bin, q_negO, k_negK, e_neg, k_notK2, k_notK1, e_not, k_blK, k_cmpK2, k_cmpK1, e_cmp, k_c2K3, k_c2K2, k_c2K1, e_cmp2, k_ifeK2, k_ifeK1, e_ife, k_callK, e_call, k_cvK, e_callv, k_askT, e_ask, k_buK, e_bu, k_bbK2, k_bbK1, e_bb, k_isiK, e_isi, k_ixK2, k_ixK1, e_ix, q_slcO_l, q_slcO_s, k_slcK3, k_slcK2, k_slcK1, e_slc, k_tupK, e_tupD, k_lstK, e_lstD, k_dicK2, k_dicK, e_dicD, k_someK, k_compK2, k_compF, k_compK3, k_compK1, e_comp, q_attrO, k_attrK, e_attr, e_es0, k_esK2, k_esK1, e_es1, e_and, e_or, e_a1, k_aK2, k_aK1, e_a2, e_o1, k_oK2, k_oK1, e_o2, k_itvK, e_itv, q_rng1O, q_rng1N, k_rng1K, e_rng1, q_rng2O, k_rng2K2, k_rng2K1, e_rng2, e_o_hole, q_intO, k_evOK, e_o_one, e_c_hole, e_c_one, k_asgK, s_asg, k_ownK, s_own, k_newK, s_new, k_asgTK, s_asgT, k_parK2, k_parK1, s_par, k_setF, k_sixK3, k_sixK2, k_sixK1, s_setIx, k_appK, s_app, k_exprK, s_expr, k_iteK2, k_iteK1, s_ite, k_forB2, k_forB, k_forK0, s_for, k_retK, s_ret, q_raisO, k_raisK, s_rais, $ls,*])
local macro_rules
  | `(tactic| simp! [$ls,*]) => `(tactic| simp (disch := first | with_reducible assumption | omega) [ev_cons, seqK_next, seqK_ret, seqK_cnt, seqK_brk, ev_retN, ev_brk, ev_cnt, ev_pass, ev_nil, bind_ok, bind_ex, bind_bad, wp_ok, wp_ex, wp_bad, cwp_ok, cwp_ex, cwp_bad, cwp_ends, flK_ret, flK_next, fin_eq', fin_same, fin_c1, exK_c1, ends_ex1, exK_eq', exK_same, forL_nil, forK_next, forK_cnt, forK_brk, forK_ret, ct_call, ct_lcall, ct_ask, lift_ok, lift_ex, liftN_ok, ends_ret, ends_next, ends_ex, List.getElem?_cons_zero, List.getElem?_cons_succ, List.getElem?_nil, List.set_cons_zero, List.set_cons_succ, List.map_cons, List.map_nil, List.length_cons, List.length_nil, List.cons_append, List.nil_append, List.replicate_succ, List.replicate_zero, Bool.not_true, Bool.not_false, Bool.false_eq_true, if_true, if_false, reduceIte, decide_true, decide_false, decide_eq_true_eq, Bool.true_or, Bool.false_or, Bool.or_true, Bool.or_false, Bool.true_and, Bool.false_and, Bool.and_true, Bool.and_false, Option.map_some, Option.map_none, Option.bind_some, Option.bind_none, Option.getD_some, Option.getD_none, ite_true, ite_false, Nat.sub_self, Nat.reduceSub, Nat.reduceAdd, Nat.reduceMul, Int.reduceAdd, Int.reduceSub, Int.reduceMul, Int.reduceNeg, Int.reduceLT, Int.reduceLE, Int.reduceEq, Int.reduceNe, Int.reduceToNat, Int.reducePow, String.reduceEq, eq_self, ne_eq, not_true_eq_false, not_false_eq_true, Rat.zero_num, Rat.zero_den, Int.cast_ofNat_Int, q_dr_non, q_dr_bl, q_dr_int, q_dr_str, q_dr_tup, q_dr_lst, q_dr_frz, q_dr_dic, q_dr_obj, q_dr_ref, q_dr_fn, q_dr_exc, q_opt_some, q_opt_none, q_tr, q_truth_non, q_truth_bl, q_truth_int, q_truth_str, q_truth_tup, q_truth_lst, q_truth_dic, q_cmp_Lt, q_cmp_LtE, q_cmp_Gt, q_cmp_GtE, q_cmp_Eq, q_cmp_Ne, q_eq_int, q_eq_str, q_eq_bl, q_Is_nn, q_Is_bb, q_Is_bl, q_Is_int, q_Is_str, q_Is_tup, q_Is_lst, q_Is_frz, q_Is_dic, q_Is_obj, q_Is_ref, q_Is_fn, q_IsNot_nn, q_IsNot_bb, q_IsNot_bl, q_IsNot_int, q_IsNot_str, q_IsNot_tup, q_IsNot_lst, q_IsNot_frz, q_IsNot_dic, q_IsNot_obj, q_IsNot_ref, q_IsNot_fn, q_bin_Add, q_bin_Sub, q_bin_Mult, q_bin_FloorDiv, q_bin_Mod, q_bin_Pow, q_bin_Adds, q_bin_Addl, q_b1_len_str, q_b1_len_lst, q_b1_len_frz, q_b1_len_tup, q_b1_abs_int, q_b1_int_int, q_b1_int_bl, q_b1_bool_int, q_b1_bool_bl, q_b1_list_lst, q_b1_list_frz, q_b1_list_tup, q_b1_list_dic, q_b1_lvals_dic, q_b1_tuple_lst, q_b1_tuple_tup, q_b1_bitlen_int, q_b1_upper_str, q_b1_rev_lst, q_b1_all_lst, q_b1_any_lst, q_b1_sum_lst, q_b2_min, q_b2_max, q_b2_join, q_b2_divmod, q_item_lst, q_item_tup, q_item_str, q_item_dici, q_item_dics, q_set_lst, q_set_dic, q_key_i, q_key_s, q_items_lst, q_items_frz, q_items_tup, q_isi_cl_int, q_isi_cl_bl, q_isi_cl_str, q_isi_cl_tup, q_isi_cl_lst, q_isi_cl_dic, q_isi_cl_non, q_isi_ty_int, q_isi_ty_bl, q_isi_ty_str, q_isi_ty_tup, q_isi_ty_lst, q_isi_ty_dic, q_isi_ty_non, q_isi_exc, q_isi_excv, q_isis_1, q_isis_2, q_isl_0, q_isl_1, q_orO, q_plain_int, q_plain_bl, q_plain_str, q_plain_tup, q_plain_lst, q_plain_dic, q_plain_non, q_rdB, q_rdS, q_rdBo_val, q_rdBo_own, q_rdBo_len, q_rdSo_val, q_rdSo_own, q_setSl, q_setT1, q_setT2, q_setSls0, q_setSls1, q_mod1, q_mod2, q_modS, q_modSo_own, q_modSo_ref, q_isL, q_isLo_own, q_isLo_ref, q_isLl, q_app, q_asgSl_lst, q_asgSl_dic, q_asgSlf_non, q_asgSlf_bl, q_asgSlf_int, q_asgSlf_str, q_asgSlf_tup, q_asgSlf_lst, q_asgSlf_frz, q_asgSlf_dic, q_asgSlf_obj, q_asgSlf_ref, q_asgSlf_fn, q_asgSlf_exc, q_asgSlt_int, q_asgSlt_str, q_asgSlt_bl, q_asgSlt_non, q_asgSlt_tup, q_asgSlt_obj, q_asgSlt_ref, q_isSeq_l, q_isSeq_d, q_frK, q_frE_nm, q_frE_bor, q_frE_kI, q_frE_kS, q_frE_kB, q_frE_kN, q_frE_glo, q_frE_neg, q_frE_not, q_frE_and, q_frE_or, q_frE_cmp, q_frE_cmp2, q_frE_ife, q_frE_callv, q_frE_ask, q_frE_bb, q_frE_isi, q_frE_ix, q_frE_tupD, q_frE_attr, q_frE_nope, q_frE_lstD, q_frE_comp, q_frE_slc, q_frE_dicD, q_frE_list, q_frE_lvals, q_frE_rev, q_frE_add, q_frE_Sub, q_frE_Mult, q_frE_FloorDiv, q_frE_Mod, q_frE_Pow, q_frE_b_len, q_frE_b_abs, q_frE_b_int, q_frE_b_tuple, q_frE_b_bitlen, q_frE_b_upper, q_frE_b_all, q_frE_b_any, q_frE_b_sum, q_frE_b_bool, q_liftP_ok, q_liftP_ex, q_frcK, q_frE_call, q_wlP, q_wlX, q_wlQ, q_wp_liftP, q_wp_lift, q_wp_liftN, q_wpK, q_wp_bind, q_lamP, q_lamX, q_cwp_lam, q_frR_nm, q_frRo_own, q_frRo_val, q_frR_bor, q_frR_kI, q_frR_kS, q_frR_kB, q_frR_kN, q_frR_glo, q_frR_neg, q_frR_not, q_frR_and, q_frR_or, q_frR_cmp, q_frR_cmp2, q_frR_ife, q_frR_callv, q_frR_ask, q_frR_bb, q_frR_isi, q_frR_ix, q_frR_tupD, q_frR_attr, q_frR_nope, q_frR_lstD, q_frR_comp, q_frR_slc, q_frR_dicD, q_frR_bu, q_frR_bin, q_frR_call, q_pairs0, q_pairs2, q_pairO, q_mkDic0, q_mkDic1, q_ixl0, q_ixl1, q_ixl2, q_ixl3, q_ixl4, q_ixl5, q_ixl6, q_ixl7, q_ixl8, q_ixl9, q_ixl10, q_ixl11, q_ixl12, q_ixm1, q_ixm2, e_nm, e_bor, e_kI, e_kS, e_kB, e_kN, e_glo, e_nope, k_binK2, k_binK1, e_bin, q_negO, k_negK, e_neg, k_notK2, k_notK1, e_not, k_blK, k_cmpK2, k_cmpK1, e_cmp, k_c2K3, k_c2K2, k_c2K1, e_cmp2, k_ifeK2, k_ifeK1, e_ife, k_callK, e_call, k_cvK, e_callv, k_askT, e_ask, k_buK, e_bu, k_bbK2, k_bbK1, e_bb, k_isiK, e_isi, k_ixK2, k_ixK1, e_ix, q_slcO_l, q_slcO_s, k_slcK3, k_slcK2, k_slcK1, e_slc, k_tupK, e_tupD, k_lstK, e_lstD, k_dicK2, k_dicK, e_dicD, k_someK, k_compK2, k_compF, k_compK3, k_compK1, e_comp, q_attrO, k_attrK, e_attr, e_es0, k_esK2, k_esK1, e_es1, e_and, e_or, e_a1, k_aK2, k_aK1, e_a2, e_o1, k_oK2, k_oK1, e_o2, k_itvK, e_itv, q_rng1O, q_rng1N, k_rng1K, e_rng1, q_rng2O, k_rng2K2, k_rng2K1, e_rng2, e_o_hole, q_intO, k_evOK, e_o_one, e_c_hole, e_c_one, k_asgK, s_asg, k_ownK, s_own, k_newK, s_new, k_asgTK, s_asgT, k_parK2, k_parK1, s_par, k_setF, k_sixK3, k_sixK2, k_sixK1, s_setIx, k_appK, s_app, k_exprK, s_expr, k_iteK2, k_iteK1, s_ite, k_forB2, k_forB, k_forK0, s_for, k_retK, s_ret, q_raisO, k_raisK, s_rais, $ls,*])
theorem ct_lcall' {t : Tx} {k : Nat} (h : 2 ≤ k) : (ctOf t (lev t k)).lcall = callN t (k - 2) := by
  obtain ⟨j, rfl⟩ : ∃ j, k = j + 2 := ⟨k - 2, by omega⟩
  rfl
section
variable {t : Tx} {k : Nat} {cs : List D}
theorem ev_gcd [hG : Has t "common_divisor" b_common_divisor] (hk : 3 ≤ k) {a b : Int} : callN t k "common_divisor" [.int a, .int b] cs = .ok (.int (Int.gcd a b)) false cs := ev_common_divisor hG.h hk a b cs
theorem ev_lgcd [hG : Has t "_law_gcd" b_law_gcd] (hk : 3 ≤ k) {a b : Int} : callN t k "_law_gcd" [.int a, .int b] cs = .ok (.int (Int.gcd a b)) false cs := ev_law_gcd hG.h hk a b cs
theorem gcd_sm {n : Nat} {p q : Int} (hq : q ≠ 0) (hs : Sm n q) : Sm n (Int.gcd p q) := hs.le (by
  rw [Int.natAbs_natCast]
  exact Nat.le_of_dvd (by omega) (by
    have := Int.gcd_dvd_right (a := p) (b := q)
    exact Int.natAbs_dvd_natAbs.mpr this))
theorem gcd_ne {p q : Int} (hq : q ≠ 0) : (Int.gcd p q : Int) ≠ 0 := by
  intro h
  exact hq (Int.gcd_eq_zero_iff.mp (by exact_mod_cast h)).2
theorem ev_lowest [Has t "common_divisor" b_common_divisor] [Has t "lowest" b_lowest] (hk : 4 ≤ k) {p q : Int} (hq : q ≠ 0) (hs : Sm 9000 q) : callN t k "lowest" [.int p, .int q] cs = .ok (frD (Rat.divInt p q)) false cs := by
  rw [call_has (d := b_lowest) (by omega) rfl rfl]
  have h1 := low_num p q hq
  have h2 := low_den p q hq
  have g0 := gcd_ne (p := p) hq
  have gs := gcd_sm (p := p) hq hs
  simp! only [b_lowest, ev_gcd]
  by_cases hn : q < 0
  · rw [if_pos hn] at h1 h2
    have d1 : ∀ x, divOk x (-(Int.gcd p q : Int)) = true := fun x => divOk_of (by omega) gs.neg
    simp! only [hn, d1, h1, h2]
    rfl
  · rw [if_neg hn] at h1 h2
    have d1 : ∀ x, divOk x (Int.gcd p q : Int) = true := fun x => divOk_of (by omega) gs
    simp! only [hn, d1, h1, h2]
    rfl
/-! plain data -/
mutual
def pureD : D → Bool
  | .non => true
  | .bl _ => true
  | .int _ => true
  | .str _ => true
  | .tup xs => pureDs xs
  | .lst xs => pureDs xs
  | .dic kv => pureDk kv
  | .frz _ => false
  | .obj _ _ => false
  | .ref _ => false
  | .fn _ => false
  | .exc _ _ => false
def pureDs : List D → Bool
  | [] => true
  | d :: r => pureD d && pureDs r
def pureDk : List (Ky × D) → Bool
  | [] => true
  | (_, d) :: r => pureD d && pureDk r
end
theorem pureDs_cons {d : D} {r : List D} : pureDs (d :: r) = (pureD d && pureDs r) := by rw [pureDs]
def isWh : D → Bool
  | .int _ => true
  | _ => false
theorem ev_whole [Has t "whole_number" b_whole_number] (hk : 3 ≤ k) {d : D} (hd : pureD d = true) : callN t k "whole_number" [d] cs = .ok (.bl (isWh d)) false cs := by
  rw [call_has (d := b_whole_number) (by omega) rfl rfl]
  cases d <;> first | (simp [pureD] at hd; done) | (simp! [b_whole_number, isWh])
theorem ev_lwhole [Has t "_law_is_whole" b_law_is_whole] (hk : 3 ≤ k) {d : D} (hd : pureD d = true) : callN t k "_law_is_whole" [d] cs = .ok (.bl (isWh d)) false cs := by
  rw [call_has (d := b_law_is_whole) (by omega) rfl rfl]
  cases d <;> first | (simp [pureD] at hd; done) | (simp! [b_law_is_whole, isWh])
theorem isFr_len {xs : List D} (h : xs.length ≠ 2) : isFr (.tup xs) = false := by
  unfold isFr
  split
  · rename_i p q e
    cases e
    simp at h
  · rfl
theorem isFr_nw {a b : D} (h : ¬ (isWh a = true ∧ isWh b = true)) : isFr (.tup [a, b]) = false := by
  unfold isFr
  split
  · rename_i p q e
    cases e
    simp [isWh] at h
  · rfl
theorem isWh_ex {d : D} (h : isWh d = true) : ∃ i, d = .int i := by
  unfold isWh at h
  split at h
  · exact ⟨_, rfl⟩
  · cases h
theorem ev_isfr [Has t "whole_number" b_whole_number] [Has t "common_divisor" b_common_divisor] [Has t "is_fraction" b_is_fraction] (hk : 4 ≤ k) {d : D} (hd : pureD d = true) : callN t k "is_fraction" [d] cs = .ok (.bl (isFr d)) false cs := by
  rw [call_has (d := b_is_fraction) (by omega) rfl rfl]
  cases d <;> first | (simp [pureD] at hd; done) | (simp! [b_is_fraction, isFr]; done) | skip
  rename_i xs
  by_cases hl : xs.length = 2
  · obtain ⟨a, b, rfl⟩ : ∃ a b, xs = [a, b] := by
      match xs, hl with
      | [a, b], _ => exact ⟨a, b, rfl⟩
    have ha : pureD a = true := by simp [pureD, pureDs] at hd; exact hd.1
    have hb : pureD b = true := by simp [pureD, pureDs] at hd; exact hd.2
    simp! [b_is_fraction, ev_whole, ha, hb]
    by_cases wa : isWh a = true
    · by_cases wb : isWh b = true
      · obtain ⟨p, rfl⟩ := isWh_ex wa
        obtain ⟨q, rfl⟩ := isWh_ex wb
        simp! [b_is_fraction, ev_gcd, isFr, isWh]
        by_cases h1 : 1 ≤ q
        · simp! [h1, ev_gcd]
          try omega
        · simp! [h1, ev_gcd]
      · simp! [wa, wb]
        exact isFr_nw (by simp [wb])
    · simp! [wa]
      exact isFr_nw (by simp [wa])
  · have hl' : ¬ ((xs.length : Int) = 2) := by omega
    simp! [b_is_fraction, hl', isFr_len hl]
end
end RX

/-! G5: sums, products, comparisons of the program's fractions. -/
namespace RX
open PySem
class HasC (t : Tx) (C : String) (fs : List String) : Prop where
  h : t.fl C = some fs
theorem fl_of {t : Tx} {C : String} {fs : List String} [x : HasC t C fs] : t.fl C = some fs := x.h
def sL : List Nat := [108, 101, 102, 116]
def sR : List Nat := [114, 105, 103, 104, 116]
def sV : List Nat := [118, 97, 108, 117, 101]
/-- BadValue(s) -/
abbrev bad (s : List Nat) (cs : List D) : CR := .ex "BadValue" [("what", .str s)] cs
theorem mul4 {a b : Int} (ha : Sm 4000 a) (hb : Sm 4000 b) : mulOk a b = true := mulOk_of ha hb (by decide)
theorem pure_frD (x : Rat) : pureD (frD x) = true := by simp [frD, pureD, pureDs]
theorem item_fr0 {x : Rat} : itemOf (frD x) (.int 0) = some (.int x.num) := rfl
theorem item_fr1 {x : Rat} : itemOf (frD x) (.int 1) = some (.int x.den) := rfl
theorem dr_fr {x : Rat} {w : W} : dr w (frD x) = frD x := rfl
theorem setT_fr {i j : Nat} {x : Rat} {w : W} : setT [i, j] (frD x) w = .ok .next (setSl (setSl w i (.val (.int x.num))) j (.val (.int x.den))) := rfl
theorem isi_fr {x : Rat} {n : String} : isInst (frD x) (.ty n) = some (decide (n = "tuple")) := rfl
theorem isic_fr {x : Rat} {n : String} : isInst (frD x) (.cl n) = some false := rfl
theorem plain_fr {x : Rat} : plainD (frD x) = true := rfl
theorem len_fr {x : Rat} : b1 .len (frD x) = some (.int 2) := rfl
theorem is_fr {x : Rat} : cmpop .Is (frD x) .non = some false := rfl
theorem isn_fr {x : Rat} : cmpop .IsNot (frD x) .non = some true := rfl
theorem zip1 {a : String} {b : D} : (([a].zip [b]).reverse) = [(a, b)] := rfl
local macro_rules
  | `(tactic| simp! only [$ls,*]) => `(tactic| simp (disch := first | with_reducible assumption | with_reducible exact pure_frD _ | omega) only [ev_cons, seqK_next, seqK_ret, seqK_cnt, seqK_brk, ev_retN, ev_brk, ev_cnt, ev_pass, ev_nil, bind_ok, bind_ex, bind_bad, wp_ok, wp_ex, wp_bad, cwp_ok, cwp_ex, cwp_bad, cwp_ends, flK_ret, flK_next, fin_eq', fin_same, fin_c1, exK_c1, ends_ex1, exK_eq', exK_same, forL_nil, forK_next, forK_cnt, forK_brk, forK_ret, ct_call, ct_lcall, ct_ask, lift_ok, lift_ex, liftN_ok, ends_ret, ends_next, ends_ex, List.getElem?_cons_zero, List.getElem?_cons_succ, List.getElem?_nil, List.set_cons_zero, List.set_cons_succ, List.map_cons, List.map_nil, List.length_cons, List.length_nil, List.cons_append, List.nil_append, List.replicate_succ, List.replicate_zero, Bool.not_true, Bool.not_false, Bool.false_eq_true, if_true, if_false, reduceIte, decide_true, decide_false, decide_eq_true_eq, Bool.true_or, Bool.false_or, Bool.or_true, Bool.or_false, Bool.true_and, Bool.false_and, Bool.and_true, Bool.and_false, Option.map_some, Option.map_none, Option.bind_some, Option.bind_none, Option.getD_some, Option.getD_none, ite_true, ite_false, Nat.sub_self, Nat.reduceSub, Nat.reduceAdd, Nat.reduceMul, Int.reduceAdd, Int.reduceSub, Int.reduceMul, Int.reduceNeg, Int.reduceLT, Int.reduceLE, Int.reduceEq, Int.reduceNe, Int.reduceToNat, Int.reducePow, String.reduceEq, eq_self, ne_eq, not_true_eq_false, not_false_eq_true, Rat.zero_num, Rat.zero_den, Int.cast_ofNat_Int, q_dr_non, q_dr_bl, q_dr_int, q_dr_str, q_dr_tup, q_dr_lst, q_dr_frz, q_dr_dic, q_dr_obj, q_dr_ref, q_dr_fn, q_dr_exc, q_opt_some, q_opt_none, q_tr, q_truth_non, q_truth_bl, q_truth_int, q_truth_str, q_truth_tup, q_truth_lst, q_truth_dic, q_cmp_Lt, q_cmp_LtE, q_cmp_Gt, q_cmp_GtE, q_cmp_Eq, q_cmp_Ne, q_eq_int, q_eq_str, q_eq_bl, q_Is_nn, q_Is_bb, q_Is_bl, q_Is_int, q_Is_str, q_Is_tup, q_Is_lst, q_Is_frz, q_Is_dic, q_Is_obj, q_Is_ref, q_Is_fn, q_IsNot_nn, q_IsNot_bb, q_IsNot_bl, q_IsNot_int, q_IsNot_str, q_IsNot_tup, q_IsNot_lst, q_IsNot_frz, q_IsNot_dic, q_IsNot_obj, q_IsNot_ref, q_IsNot_fn, q_bin_Add, q_bin_Sub, q_bin_Mult, q_bin_FloorDiv, q_bin_Mod, q_bin_Pow, q_bin_Adds, q_bin_Addl, q_b1_len_str, q_b1_len_lst, q_b1_len_frz, q_b1_len_tup, q_b1_abs_int, q_b1_int_int, q_b1_int_bl, q_b1_bool_int, q_b1_bool_bl, q_b1_list_lst, q_b1_list_frz, q_b1_list_tup, q_b1_list_dic, q_b1_lvals_dic, q_b1_tuple_lst, q_b1_tuple_tup, q_b1_bitlen_int, q_b1_upper_str, q_b1_rev_lst, q_b1_all_lst, q_b1_any_lst, q_b1_sum_lst, q_b2_min, q_b2_max, q_b2_join, q_b2_divmod, q_item_lst, q_item_tup, q_item_str, q_item_dici, q_item_dics, q_set_lst, q_set_dic, q_key_i, q_key_s, q_items_lst, q_items_frz, q_items_tup, q_isi_cl_int, q_isi_cl_bl, q_isi_cl_str, q_isi_cl_tup, q_isi_cl_lst, q_isi_cl_dic, q_isi_cl_non, q_isi_ty_int, q_isi_ty_bl, q_isi_ty_str, q_isi_ty_tup, q_isi_ty_lst, q_isi_ty_dic, q_isi_ty_non, q_isi_exc, q_isi_excv, q_isis_1, q_isis_2, q_isl_0, q_isl_1, q_orO, q_plain_int, q_plain_bl, q_plain_str, q_plain_tup, q_plain_lst, q_plain_dic, q_plain_non, q_rdB, q_rdS, q_rdBo_val, q_rdBo_own, q_rdBo_len, q_rdSo_val, q_rdSo_own, q_setSl, q_setT1, q_setT2, q_setSls0, q_setSls1, q_mod1, q_mod2, q_modS, q_modSo_own, q_modSo_ref, q_isL, q_isLo_own, q_isLo_ref, q_isLl, q_app, q_asgSl_lst, q_asgSl_dic, q_asgSlf_non, q_asgSlf_bl, q_asgSlf_int, q_asgSlf_str, q_asgSlf_tup, q_asgSlf_lst, q_asgSlf_frz, q_asgSlf_dic, q_asgSlf_obj, q_asgSlf_ref, q_asgSlf_fn, q_asgSlf_exc, q_asgSlt_int, q_asgSlt_str, q_asgSlt_bl, q_asgSlt_non, q_asgSlt_tup, q_asgSlt_obj, q_asgSlt_ref, q_isSeq_l, q_isSeq_d, q_frK, q_frE_nm, q_frE_bor, q_frE_kI, q_frE_kS, q_frE_kB, q_frE_kN, q_frE_glo, q_frE_neg, q_frE_not, q_frE_and, q_frE_or, q_frE_cmp, q_frE_cmp2, q_frE_ife, q_frE_callv, q_frE_ask, q_frE_bb, q_frE_isi, q_frE_ix, q_frE_tupD, q_frE_attr, q_frE_nope, q_frE_lstD, q_frE_comp, q_frE_slc, q_frE_dicD, q_frE_list, q_frE_lvals, q_frE_rev, q_frE_add, q_frE_Sub, q_frE_Mult, q_frE_FloorDiv, q_frE_Mod, q_frE_Pow, q_frE_b_len, q_frE_b_abs, q_frE_b_int, q_frE_b_tuple, q_frE_b_bitlen, q_frE_b_upper, q_frE_b_all, q_frE_b_any, q_frE_b_sum, q_frE_b_bool, q_liftP_ok, q_liftP_ex, q_frcK, q_frE_call, q_wlP, q_wlX, q_wlQ, q_wp_liftP, q_wp_lift, q_wp_liftN, q_wpK, q_wp_bind, q_lamP, q_lamX, q_cwp_lam, q_frR_nm, q_frRo_own, q_frRo_val, q_frR_bor, q_frR_kI, q_frR_kS, q_frR_kB, q_frR_kN, q_frR_glo, q_frR_neg, q_frR_not, q_frR_and, q_frR_or, q_frR_cmp, q_frR_cmp2, q_frR_ife, q_frR_callv, q_frR_ask, q_frR_bb, q_frR_isi, q_frR_ix, q_frR_tupD, q_frR_attr, q_frR_nope, q_frR_lstD, q_frR_comp, q_frR_slc, q_frR_dicD, q_frR_bu, q_frR_bin, q_frR_call, q_pairs0, q_pairs2, q_pairO, q_mkDic0, q_mkDic1, q_ixl0, q_ixl1, q_ixl2, q_ixl3, q_ixl4, q_ixl5, q_ixl6, q_ixl7, q_ixl8, q_ixl9, q_ixl10, q_ixl11, q_ixl12, q_ixm1, q_ixm2, e_nm, e_bor, e_kI, e_kS, e_kB, e_kN, e_glo, e_nope, k_binK2, k_binK1, e_bin, q_negO, k_negK, e_neg, k_notK2, k_notK1, e_not, k_blK, k_cmpK2, k_cmpK1, e_cmp, k_c2K3, k_c2K2, k_c2K1, e_cmp2, k_ifeK2, k_ifeK1, e_ife, k_callK, e_call, k_cvK, e_callv, k_askT, e_ask, k_buK, e_bu, k_bbK2, k_bbK1, e_bb, k_isiK, e_isi, k_ixK2, k_ixK1, e_ix, q_slcO_l, q_slcO_s, k_slcK3, k_slcK2, k_slcK1, e_slc, k_tupK, e_tupD, k_lstK, e_lstD, k_dicK2, k_dicK, e_dicD, k_someK, k_compK2, k_compF, k_compK3, k_compK1, e_comp, q_attrO, k_attrK, e_attr, e_es0, k_esK2, k_esK1, e_es1, e_and, e_or, e_a1, k_aK2, k_aK1, e_a2, e_o1, k_oK2, k_oK1, e_o2, k_itvK, e_itv, q_rng1O, q_rng1N, k_rng1K, e_rng1, q_rng2O, k_rng2K2, k_rng2K1, e_rng2, e_o_hole, q_intO, k_evOK, e_o_one, e_c_hole, e_c_one, k_asgK, s_asg, k_ownK, s_own, k_newK, s_new, k_asgTK, s_asgT, k_parK2, k_parK1, s_par, k_setF, k_sixK3, k_sixK2, k_sixK1, s_setIx, k_appK, s_app, k_exprK, s_expr, k_iteK2, k_iteK1, s_ite, k_forB2, k_forB, k_forK0, s_for, k_retK, s_ret, q_raisO, k_raisK, s_rais, item_fr0, item_fr1, dr_fr, setT_fr, isi_fr, isic_fr, plain_fr, len_fr, is_fr, isn_fr, zip1, $ls,*])
section
variable {t : Tx} {k : Nat} {cs : List D}
theorem ev_check_pair [Has t "whole_number" b_whole_number] [Has t "common_divisor" b_common_divisor] [Has t "is_fraction" b_is_fraction] [Has t "check_pair" b_check_pair] [HasC t "BadValue" ["what"]] (hk : 5 ≤ k) {d e : D} (hd : pureD d = true) (he : pureD e = true) :
    callN t k "check_pair" [d, e] cs = if isFr d then (if isFr e then .ok .non false cs else bad sR cs) else bad sL cs := by
  rw [call_has (d := b_check_pair) (by omega) rfl rfl]
  cases h1 : isFr d <;> cases h2 : isFr e <;> simp! only [b_check_pair, ev_isfr, h1, h2, fl_of (fs := ["what"]), sL, sR]


theorem ev_plus [Has t "whole_number" b_whole_number] [Has t "common_divisor" b_common_divisor] [Has t "lowest" b_lowest] [Has t "is_fraction" b_is_fraction] [Has t "check_pair" b_check_pair] [HasC t "BadValue" ["what"]] [Has t "plus" b_plus] (hk : 6 ≤ k) {x y : Rat} (hx : Sz 4000 x) (hy : Sz 4000 y) :
    callN t k "plus" [frD x, frD y] cs = .ok (frD (x + y)) false cs := by
  rw [call_has (d := b_plus) (by omega) rfl rfl]
  obtain ⟨x1, x2⟩ := hx
  obtain ⟨y1, y2⟩ := hy
  have s8 : Sm 9000 ((x.den : Int) * y.den) := (x2.mul y2).mono (by decide)
  have n8 : (x.den : Int) * y.den ≠ 0 := Int.mul_ne_zero (den_ne x) (den_ne y)
  simp! only [b_plus, ev_check_pair, pure_frD, isFr_frD, mul4 x1 y1, mul4 x1 y2, mul4 y1 x2, mul4 x2 y2, mul4 x2 y1, ev_lowest, add_div]
theorem ev_plus_l [Has t "whole_number" b_whole_number] [Has t "common_divisor" b_common_divisor] [Has t "is_fraction" b_is_fraction] [Has t "check_pair" b_check_pair] [HasC t "BadValue" ["what"]] [Has t "plus" b_plus] (hk : 6 ≤ k) {d e : D} (hd : pureD d = true) (he : pureD e = true) (h : isFr d = false) :
    callN t k "plus" [d, e] cs = bad sL cs := by
  rw [call_has (d := b_plus) (by omega) rfl rfl]
  simp! only [b_plus, ev_check_pair, h, hd, he]
theorem ev_plus_r [Has t "whole_number" b_whole_number] [Has t "common_divisor" b_common_divisor] [Has t "is_fraction" b_is_fraction] [Has t "check_pair" b_check_pair] [HasC t "BadValue" ["what"]] [Has t "plus" b_plus] (hk : 6 ≤ k) {d e : D} (hd : pureD d = true) (he : pureD e = true) (h0 : isFr d = true) (h : isFr e = false) :
    callN t k "plus" [d, e] cs = bad sR cs := by
  rw [call_has (d := b_plus) (by omega) rfl rfl]
  simp! only [b_plus, ev_check_pair, h0, h, hd, he]

theorem ev_minus [Has t "whole_number" b_whole_number] [Has t "common_divisor" b_common_divisor] [Has t "lowest" b_lowest] [Has t "is_fraction" b_is_fraction] [Has t "check_pair" b_check_pair] [HasC t "BadValue" ["what"]] [Has t "minus" b_minus] (hk : 6 ≤ k) {x y : Rat} (hx : Sz 4000 x) (hy : Sz 4000 y) :
    callN t k "minus" [frD x, frD y] cs = .ok (frD (x - y)) false cs := by
  rw [call_has (d := b_minus) (by omega) rfl rfl]
  obtain ⟨x1, x2⟩ := hx
  obtain ⟨y1, y2⟩ := hy
  have s8 : Sm 9000 ((x.den : Int) * y.den) := (x2.mul y2).mono (by decide)
  have n8 : (x.den : Int) * y.den ≠ 0 := Int.mul_ne_zero (den_ne x) (den_ne y)
  simp! only [b_minus, ev_check_pair, pure_frD, isFr_frD, mul4 x1 y1, mul4 x1 y2, mul4 y1 x2, mul4 x2 y2, mul4 x2 y1, ev_lowest, sub_div]
theorem ev_minus_l [Has t "whole_number" b_whole_number] [Has t "common_divisor" b_common_divisor] [Has t "is_fraction" b_is_fraction] [Has t "check_pair" b_check_pair] [HasC t "BadValue" ["what"]] [Has t "minus" b_minus] (hk : 6 ≤ k) {d e : D} (hd : pureD d = true) (he : pureD e = true) (h : isFr d = false) :
    callN t k "minus" [d, e] cs = bad sL cs := by
  rw [call_has (d := b_minus) (by omega) rfl rfl]
  simp! only [b_minus, ev_check_pair, h, hd, he]
theorem ev_minus_r [Has t "whole_number" b_whole_number] [Has t "common_divisor" b_common_divisor] [Has t "is_fraction" b_is_fraction] [Has t "check_pair" b_check_pair] [HasC t "BadValue" ["what"]] [Has t "minus" b_minus] (hk : 6 ≤ k) {d e : D} (hd : pureD d = true) (he : pureD e = true) (h0 : isFr d = true) (h : isFr e = false) :
    callN t k "minus" [d, e] cs = bad sR cs := by
  rw [call_has (d := b_minus) (by omega) rfl rfl]
  simp! only [b_minus, ev_check_pair, h0, h, hd, he]

theorem ev_times [Has t "whole_number" b_whole_number] [Has t "common_divisor" b_common_divisor] [Has t "lowest" b_lowest] [Has t "is_fraction" b_is_fraction] [Has t "check_pair" b_check_pair] [HasC t "BadValue" ["what"]] [Has t "times" b_times] (hk : 6 ≤ k) {x y : Rat} (hx : Sz 4000 x) (hy : Sz 4000 y) :
    callN t k "times" [frD x, frD y] cs = .ok (frD (x * y)) false cs := by
  rw [call_has (d := b_times) (by omega) rfl rfl]
  obtain ⟨x1, x2⟩ := hx
  obtain ⟨y1, y2⟩ := hy
  have s8 : Sm 9000 ((x.den : Int) * y.den) := (x2.mul y2).mono (by decide)
  have n8 : (x.den : Int) * y.den ≠ 0 := Int.mul_ne_zero (den_ne x) (den_ne y)
  simp! only [b_times, ev_check_pair, pure_frD, isFr_frD, mul4 x1 y1, mul4 x1 y2, mul4 y1 x2, mul4 x2 y2, mul4 x2 y1, ev_lowest, mul_div]
theorem ev_times_l [Has t "whole_number" b_whole_number] [Has t "common_divisor" b_common_divisor] [Has t "is_fraction" b_is_fraction] [Has t "check_pair" b_check_pair] [HasC t "BadValue" ["what"]] [Has t "times" b_times] (hk : 6 ≤ k) {d e : D} (hd : pureD d = true) (he : pureD e = true) (h : isFr d = false) :
    callN t k "times" [d, e] cs = bad sL cs := by
  rw [call_has (d := b_times) (by omega) rfl rfl]
  simp! only [b_times, ev_check_pair, h, hd, he]
theorem ev_times_r [Has t "whole_number" b_whole_number] [Has t "common_divisor" b_common_divisor] [Has t "is_fraction" b_is_fraction] [Has t "check_pair" b_check_pair] [HasC t "BadValue" ["what"]] [Has t "times" b_times] (hk : 6 ≤ k) {d e : D} (hd : pureD d = true) (he : pureD e = true) (h0 : isFr d = true) (h : isFr e = false) :
    callN t k "times" [d, e] cs = bad sR cs := by
  rw [call_has (d := b_times) (by omega) rfl rfl]
  simp! only [b_times, ev_check_pair, h0, h, hd, he]

theorem ev_over [Has t "whole_number" b_whole_number] [Has t "common_divisor" b_common_divisor] [Has t "lowest" b_lowest] [Has t "is_fraction" b_is_fraction] [Has t "check_pair" b_check_pair] [HasC t "BadValue" ["what"]] [Has t "over" b_over] (hk : 6 ≤ k) {x y : Rat} (hx : Sz 4000 x) (hy : Sz 4000 y) (h0 : y ≠ 0) :
    callN t k "over" [frD x, frD y] cs = .ok (frD (x / y)) false cs := by
  rw [call_has (d := b_over) (by omega) rfl rfl]
  obtain ⟨x1, x2⟩ := hx
  obtain ⟨y1, y2⟩ := hy
  have s8 : Sm 9000 ((x.den : Int) * y.num) := (x2.mul y1).mono (by decide)
  have n0 := num_ne h0
  have n8 : (x.den : Int) * y.num ≠ 0 := Int.mul_ne_zero (den_ne x) n0
  simp! only [b_over, ev_check_pair, pure_frD, isFr_frD, mul4 x1 y1, mul4 x1 y2, mul4 y1 x2, mul4 x2 y2, mul4 x2 y1, ev_lowest, div_div, n0, h0]
theorem ev_over_l [Has t "whole_number" b_whole_number] [Has t "common_divisor" b_common_divisor] [Has t "is_fraction" b_is_fraction] [Has t "check_pair" b_check_pair] [HasC t "BadValue" ["what"]] [Has t "over" b_over] (hk : 6 ≤ k) {d e : D} (hd : pureD d = true) (he : pureD e = true) (h : isFr d = false) :
    callN t k "over" [d, e] cs = bad sL cs := by
  rw [call_has (d := b_over) (by omega) rfl rfl]
  simp! only [b_over, ev_check_pair, h, hd, he]
theorem ev_over_r [Has t "whole_number" b_whole_number] [Has t "common_divisor" b_common_divisor] [Has t "is_fraction" b_is_fraction] [Has t "check_pair" b_check_pair] [HasC t "BadValue" ["what"]] [Has t "over" b_over] (hk : 6 ≤ k) {d e : D} (hd : pureD d = true) (he : pureD e = true) (h0 : isFr d = true) (h : isFr e = false) :
    callN t k "over" [d, e] cs = bad sR cs := by
  rw [call_has (d := b_over) (by omega) rfl rfl]
  simp! only [b_over, ev_check_pair, h0, h, hd, he]

theorem ev_over_0 [Has t "whole_number" b_whole_number] [Has t "common_divisor" b_common_divisor] [Has t "is_fraction" b_is_fraction] [Has t "check_pair" b_check_pair] [HasC t "BadValue" ["what"]] [Has t "over" b_over] (hk : 6 ≤ k) {x : Rat} :
    callN t k "over" [frD x, frD 0] cs = bad sR cs := by
  rw [call_has (d := b_over) (by omega) rfl rfl]
  simp! only [b_over, ev_check_pair, pure_frD, isFr_frD, sR, fl_of (fs := ["what"])]
def sgn (x : Rat) : Int := if x < 0 then -1 else if 0 < x then 1 else 0
theorem lt0_sub (x y : Rat) : x - y < 0 ↔ x.num * y.den - y.num * x.den < 0 := by
  have : x - y < 0 ↔ x < y := by grind
  rw [this, Rat.lt_iff]
  omega
theorem gt0_sub (x y : Rat) : 0 < x - y ↔ 0 < x.num * y.den - y.num * x.den := by
  have : 0 < x - y ↔ y < x := by grind
  rw [this, Rat.lt_iff]
  omega

theorem ev_compare [Has t "whole_number" b_whole_number] [Has t "common_divisor" b_common_divisor] [Has t "lowest" b_lowest] [Has t "is_fraction" b_is_fraction] [Has t "check_pair" b_check_pair] [HasC t "BadValue" ["what"]] [Has t "compare" b_compare] (hk : 6 ≤ k) {x y : Rat} (hx : Sz 4000 x) (hy : Sz 4000 y) :
    callN t k "compare" [frD x, frD y] cs = .ok (.int (sgn (x - y))) false cs := by
  rw [call_has (d := b_compare) (by omega) rfl rfl]
  obtain ⟨x1, x2⟩ := hx
  obtain ⟨y1, y2⟩ := hy
  have a := lt0_sub x y
  have b := gt0_sub x y
  unfold sgn
  by_cases h1 : x.num * y.den - y.num * x.den < 0
  · rw [if_pos (a.mpr h1)]
    simp! only [b_compare, ev_check_pair, pure_frD, isFr_frD, mul4 x1 y1, mul4 x1 y2, mul4 y1 x2, mul4 x2 y2, mul4 x2 y1, h1]
  · rw [if_neg (fun z => h1 (a.mp z))]
    by_cases h2 : 0 < x.num * y.den - y.num * x.den
    · rw [if_pos (b.mpr h2)]
      simp! only [b_compare, ev_check_pair, pure_frD, isFr_frD, mul4 x1 y1, mul4 x1 y2, mul4 y1 x2, mul4 x2 y2, mul4 x2 y1, h1, h2]
    · rw [if_neg (fun z => h2 (b.mp z))]
      simp! only [b_compare, ev_check_pair, pure_frD, isFr_frD, mul4 x1 y1, mul4 x1 y2, mul4 y1 x2, mul4 x2 y2, mul4 x2 y1, h1, h2]
theorem ev_compare_l [Has t "whole_number" b_whole_number] [Has t "common_divisor" b_common_divisor] [Has t "is_fraction" b_is_fraction] [Has t "check_pair" b_check_pair] [HasC t "BadValue" ["what"]] [Has t "compare" b_compare] (hk : 6 ≤ k) {d e : D} (hd : pureD d = true) (he : pureD e = true) (h : isFr d = false) :
    callN t k "compare" [d, e] cs = bad sL cs := by
  rw [call_has (d := b_compare) (by omega) rfl rfl]
  simp! only [b_compare, ev_check_pair, h, hd, he]
theorem ev_compare_r [Has t "whole_number" b_whole_number] [Has t "common_divisor" b_common_divisor] [Has t "is_fraction" b_is_fraction] [Has t "check_pair" b_check_pair] [HasC t "BadValue" ["what"]] [Has t "compare" b_compare] (hk : 6 ≤ k) {d e : D} (hd : pureD d = true) (he : pureD e = true) (h0 : isFr d = true) (h : isFr e = false) :
    callN t k "compare" [d, e] cs = bad sR cs := by
  rw [call_has (d := b_compare) (by omega) rfl rfl]
  simp! only [b_compare, ev_check_pair, h0, h, hd, he]


end
end RX

/-! G6: draws from the script. -/
namespace RX
open PySem
theorem Sm.self (x : Int) : Sm (x.natAbs.log2 + 1) x := by
  exact ⟨Nat.lt_log2_self⟩
theorem Sm.fmod {n : Nat} {a m : Int} (hm : 0 < m) (h : Sm n m) : Sm n (a.fmod m) := by
  refine h.le ?_
  have h1 := Int.fmod_lt_of_pos a hm
  have h2 := Int.fmod_nonneg_of_pos a hm
  omega
theorem Sm.fdiv {n : Nat} {a m : Int} (ha : 0 ≤ a) (hm : 0 < m) (h : Sm n a) : Sm n (a.fdiv m) := by
  refine h.le ?_
  rw [Int.fdiv_eq_ediv_of_nonneg _ (Int.le_of_lt hm)]
  have := Int.ediv_le_self m ha
  have := Int.ediv_nonneg ha (Int.le_of_lt hm)
  omega
theorem Sm.lt {n : Nat} {a b : Int} (h : Sm n b) (h0 : 0 ≤ a) (h1 : a ≤ b) : Sm n a := h.le (by omega)
theorem mulM {a b : Int} (ha : Sm 1000000 a) (hb : Sm 1000000 b) : mulOk a b = true := mulOk_of ha hb (by decide)
theorem divM {a b : Int} (h0 : b ≠ 0) (hb : Sm 9000 b) : divOk a b = true := divOk_of h0 hb
local macro_rules
  | `(tactic| decreasing_trivial) => `(tactic| (with_reducible apply Sm.mono; (repeat (first | with_reducible assumption | with_reducible exact Sm.self (OfNat.ofNat _) | with_reducible exact num_bd (by assumption) | with_reducible exact den_bd (by assumption) | with_reducible apply Sm.mul | with_reducible apply Sm.add' | with_reducible apply Sm.sub' | with_reducible apply Sm.neg | (with_reducible apply Sm.fmod (by decide)))); decide))
local macro_rules
  | `(tactic| simp! only [$ls,*]) => `(tactic| simp (disch := first | with_reducible assumption | decreasing_trivial | omega) only [ev_cons, seqK_next, seqK_ret, seqK_cnt, seqK_brk, ev_retN, ev_brk, ev_cnt, ev_pass, ev_nil, bind_ok, bind_ex, bind_bad, wp_ok, wp_ex, wp_bad, cwp_ok, cwp_ex, cwp_bad, cwp_ends, flK_ret, flK_next, fin_eq', fin_same, fin_c1, exK_c1, ends_ex1, exK_eq', exK_same, forL_nil, forK_next, forK_cnt, forK_brk, forK_ret, ct_call, ct_lcall, ct_ask, lift_ok, lift_ex, liftN_ok, ends_ret, ends_next, ends_ex, List.getElem?_cons_zero, List.getElem?_cons_succ, List.getElem?_nil, List.set_cons_zero, List.set_cons_succ, List.map_cons, List.map_nil, List.length_cons, List.length_nil, List.cons_append, List.nil_append, List.replicate_succ, List.replicate_zero, Bool.not_true, Bool.not_false, Bool.false_eq_true, if_true, if_false, reduceIte, decide_true, decide_false, decide_eq_true_eq, Bool.true_or, Bool.false_or, Bool.or_true, Bool.or_false, Bool.true_and, Bool.false_and, Bool.and_true, Bool.and_false, Option.map_some, Option.map_none, Option.bind_some, Option.bind_none, Option.getD_some, Option.getD_none, ite_true, ite_false, Nat.sub_self, Nat.reduceSub, Nat.reduceAdd, Nat.reduceMul, Int.reduceAdd, Int.reduceSub, Int.reduceMul, Int.reduceNeg, Int.reduceLT, Int.reduceLE, Int.reduceEq, Int.reduceNe, Int.reduceToNat, Int.reducePow, String.reduceEq, eq_self, ne_eq, not_true_eq_false, not_false_eq_true, Rat.zero_num, Rat.zero_den, Int.cast_ofNat_Int, q_dr_non, q_dr_bl, q_dr_int, q_dr_str, q_dr_tup, q_dr_lst, q_dr_frz, q_dr_dic, q_dr_obj, q_dr_ref, q_dr_fn, q_dr_exc, q_opt_some, q_opt_none, q_tr, q_truth_non, q_truth_bl, q_truth_int, q_truth_str, q_truth_tup, q_truth_lst, q_truth_dic, q_cmp_Lt, q_cmp_LtE, q_cmp_Gt, q_cmp_GtE, q_cmp_Eq, q_cmp_Ne, q_eq_int, q_eq_str, q_eq_bl, q_Is_nn, q_Is_bb, q_Is_bl, q_Is_int, q_Is_str, q_Is_tup, q_Is_lst, q_Is_frz, q_Is_dic, q_Is_obj, q_Is_ref, q_Is_fn, q_IsNot_nn, q_IsNot_bb, q_IsNot_bl, q_IsNot_int, q_IsNot_str, q_IsNot_tup, q_IsNot_lst, q_IsNot_frz, q_IsNot_dic, q_IsNot_obj, q_IsNot_ref, q_IsNot_fn, q_bin_Add, q_bin_Sub, q_bin_Mult, q_bin_FloorDiv, q_bin_Mod, q_bin_Pow, q_bin_Adds, q_bin_Addl, q_b1_len_str, q_b1_len_lst, q_b1_len_frz, q_b1_len_tup, q_b1_abs_int, q_b1_int_int, q_b1_int_bl, q_b1_bool_int, q_b1_bool_bl, q_b1_list_lst, q_b1_list_frz, q_b1_list_tup, q_b1_list_dic, q_b1_lvals_dic, q_b1_tuple_lst, q_b1_tuple_tup, q_b1_bitlen_int, q_b1_upper_str, q_b1_rev_lst, q_b1_all_lst, q_b1_any_lst, q_b1_sum_lst, q_b2_min, q_b2_max, q_b2_join, q_b2_divmod, q_item_lst, q_item_tup, q_item_str, q_item_dici, q_item_dics, q_set_lst, q_set_dic, q_key_i, q_key_s, q_items_lst, q_items_frz, q_items_tup, q_isi_cl_int, q_isi_cl_bl, q_isi_cl_str, q_isi_cl_tup, q_isi_cl_lst, q_isi_cl_dic, q_isi_cl_non, q_isi_ty_int, q_isi_ty_bl, q_isi_ty_str, q_isi_ty_tup, q_isi_ty_lst, q_isi_ty_dic, q_isi_ty_non, q_isi_exc, q_isi_excv, q_isis_1, q_isis_2, q_isl_0, q_isl_1, q_orO, q_plain_int, q_plain_bl, q_plain_str, q_plain_tup, q_plain_lst, q_plain_dic, q_plain_non, q_rdB, q_rdS, q_rdBo_val, q_rdBo_own, q_rdBo_len, q_rdSo_val, q_rdSo_own, q_setSl, q_setT1, q_setT2, q_setSls0, q_setSls1, q_mod1, q_mod2, q_modS, q_modSo_own, q_modSo_ref, q_isL, q_isLo_own, q_isLo_ref, q_isLl, q_app, q_asgSl_lst, q_asgSl_dic, q_asgSlf_non, q_asgSlf_bl, q_asgSlf_int, q_asgSlf_str, q_asgSlf_tup, q_asgSlf_lst, q_asgSlf_frz, q_asgSlf_dic, q_asgSlf_obj, q_asgSlf_ref, q_asgSlf_fn, q_asgSlf_exc, q_asgSlt_int, q_asgSlt_str, q_asgSlt_bl, q_asgSlt_non, q_asgSlt_tup, q_asgSlt_obj, q_asgSlt_ref, q_isSeq_l, q_isSeq_d, q_frK, q_frE_nm, q_frE_bor, q_frE_kI, q_frE_kS, q_frE_kB, q_frE_kN, q_frE_glo, q_frE_neg, q_frE_not, q_frE_and, q_frE_or, q_frE_cmp, q_frE_cmp2, q_frE_ife, q_frE_callv, q_frE_ask, q_frE_bb, q_frE_isi, q_frE_ix, q_frE_tupD, q_frE_attr, q_frE_nope, q_frE_lstD, q_frE_comp, q_frE_slc, q_frE_dicD, q_frE_list, q_frE_lvals, q_frE_rev, q_frE_add, q_frE_Sub, q_frE_Mult, q_frE_FloorDiv, q_frE_Mod, q_frE_Pow, q_frE_b_len, q_frE_b_abs, q_frE_b_int, q_frE_b_tuple, q_frE_b_bitlen, q_frE_b_upper, q_frE_b_all, q_frE_b_any, q_frE_b_sum, q_frE_b_bool, q_liftP_ok, q_liftP_ex, q_frcK, q_frE_call, q_wlP, q_wlX, q_wlQ, q_wp_liftP, q_wp_lift, q_wp_liftN, q_wpK, q_wp_bind, q_lamP, q_lamX, q_cwp_lam, q_frR_nm, q_frRo_own, q_frRo_val, q_frR_bor, q_frR_kI, q_frR_kS, q_frR_kB, q_frR_kN, q_frR_glo, q_frR_neg, q_frR_not, q_frR_and, q_frR_or, q_frR_cmp, q_frR_cmp2, q_frR_ife, q_frR_callv, q_frR_ask, q_frR_bb, q_frR_isi, q_frR_ix, q_frR_tupD, q_frR_attr, q_frR_nope, q_frR_lstD, q_frR_comp, q_frR_slc, q_frR_dicD, q_frR_bu, q_frR_bin, q_frR_call, q_pairs0, q_pairs2, q_pairO, q_mkDic0, q_mkDic1, q_ixl0, q_ixl1, q_ixl2, q_ixl3, q_ixl4, q_ixl5, q_ixl6, q_ixl7, q_ixl8, q_ixl9, q_ixl10, q_ixl11, q_ixl12, q_ixm1, q_ixm2, e_nm, e_bor, e_kI, e_kS, e_kB, e_kN, e_glo, e_nope, k_binK2, k_binK1, e_bin, q_negO, k_negK, e_neg, k_notK2, k_notK1, e_not, k_blK, k_cmpK2, k_cmpK1, e_cmp, k_c2K3, k_c2K2, k_c2K1, e_cmp2, k_ifeK2, k_ifeK1, e_ife, k_callK, e_call, k_cvK, e_callv, k_askT, e_ask, k_buK, e_bu, k_bbK2, k_bbK1, e_bb, k_isiK, e_isi, k_ixK2, k_ixK1, e_ix, q_slcO_l, q_slcO_s, k_slcK3, k_slcK2, k_slcK1, e_slc, k_tupK, e_tupD, k_lstK, e_lstD, k_dicK2, k_dicK, e_dicD, k_someK, k_compK2, k_compF, k_compK3, k_compK1, e_comp, q_attrO, k_attrK, e_attr, e_es0, k_esK2, k_esK1, e_es1, e_and, e_or, e_a1, k_aK2, k_aK1, e_a2, e_o1, k_oK2, k_oK1, e_o2, k_itvK, e_itv, q_rng1O, q_rng1N, k_rng1K, e_rng1, q_rng2O, k_rng2K2, k_rng2K1, e_rng2, e_o_hole, q_intO, k_evOK, e_o_one, e_c_hole, e_c_one, k_asgK, s_asg, k_ownK, s_own, k_newK, s_new, k_asgTK, s_asgT, k_parK2, k_parK1, s_par, k_setF, k_sixK3, k_sixK2, k_sixK1, s_setIx, k_appK, s_app, k_exprK, s_expr, k_iteK2, k_iteK1, s_ite, k_forB2, k_forB, k_forK0, s_for, k_retK, s_ret, q_raisO, k_raisK, s_rais, item_fr0, item_fr1, dr_fr, setT_fr, isi_fr, isic_fr, plain_fr, len_fr, is_fr, isn_fr, zip1, $ls,*])
local macro_rules
  | `(tactic| dsimp! only [$ls,*]) => `(tactic| simp (disch := first | with_reducible assumption | decreasing_trivial | omega) only [ev_cons, seqK_ret, seqK_cnt, seqK_brk, ev_retN, ev_brk, ev_cnt, ev_pass, ev_nil, bind_ok, bind_ex, bind_bad, wp_ok, wp_ex, wp_bad, cwp_ok, cwp_ex, cwp_bad, cwp_ends, flK_ret, flK_next, fin_eq', fin_same, fin_c1, exK_c1, ends_ex1, exK_eq', exK_same, forL_nil, forK_next, forK_cnt, forK_brk, forK_ret, ct_call, ct_lcall, ct_ask, lift_ok, lift_ex, liftN_ok, ends_ret, ends_next, ends_ex, List.getElem?_cons_zero, List.getElem?_cons_succ, List.getElem?_nil, List.set_cons_zero, List.set_cons_succ, List.map_cons, List.map_nil, List.length_cons, List.length_nil, List.cons_append, List.nil_append, List.replicate_succ, List.replicate_zero, Bool.not_true, Bool.not_false, Bool.false_eq_true, if_true, if_false, reduceIte, decide_true, decide_false, decide_eq_true_eq, Bool.true_or, Bool.false_or, Bool.or_true, Bool.or_false, Bool.true_and, Bool.false_and, Bool.and_true, Bool.and_false, Option.map_some, Option.map_none, Option.bind_some, Option.bind_none, Option.getD_some, Option.getD_none, ite_true, ite_false, Nat.sub_self, Nat.reduceSub, Nat.reduceAdd, Nat.reduceMul, Int.reduceAdd, Int.reduceSub, Int.reduceMul, Int.reduceNeg, Int.reduceLT, Int.reduceLE, Int.reduceEq, Int.reduceNe, Int.reduceToNat, Int.reducePow, String.reduceEq, eq_self, ne_eq, not_true_eq_false, not_false_eq_true, Rat.zero_num, Rat.zero_den, Int.cast_ofNat_Int, q_dr_non, q_dr_bl, q_dr_int, q_dr_str, q_dr_tup, q_dr_lst, q_dr_frz, q_dr_dic, q_dr_obj, q_dr_ref, q_dr_fn, q_dr_exc, q_opt_some, q_opt_none, q_tr, q_truth_non, q_truth_bl, q_truth_int, q_truth_str, q_truth_tup, q_truth_lst, q_truth_dic, q_cmp_Lt, q_cmp_LtE, q_cmp_Gt, q_cmp_GtE, q_cmp_Eq, q_cmp_Ne, q_eq_int, q_eq_str, q_eq_bl, q_Is_nn, q_Is_bb, q_Is_bl, q_Is_int, q_Is_str, q_Is_tup, q_Is_lst, q_Is_frz, q_Is_dic, q_Is_obj, q_Is_ref, q_Is_fn, q_IsNot_nn, q_IsNot_bb, q_IsNot_bl, q_IsNot_int, q_IsNot_str, q_IsNot_tup, q_IsNot_lst, q_IsNot_frz, q_IsNot_dic, q_IsNot_obj, q_IsNot_ref, q_IsNot_fn, q_bin_Add, q_bin_Sub, q_bin_Mult, q_bin_FloorDiv, q_bin_Mod, q_bin_Pow, q_bin_Adds, q_bin_Addl, q_b1_len_str, q_b1_len_lst, q_b1_len_frz, q_b1_len_tup, q_b1_abs_int, q_b1_int_int, q_b1_int_bl, q_b1_bool_int, q_b1_bool_bl, q_b1_list_lst, q_b1_list_frz, q_b1_list_tup, q_b1_list_dic, q_b1_lvals_dic, q_b1_tuple_lst, q_b1_tuple_tup, q_b1_bitlen_int, q_b1_upper_str, q_b1_rev_lst, q_b1_all_lst, q_b1_any_lst, q_b1_sum_lst, q_b2_min, q_b2_max, q_b2_join, q_b2_divmod, q_item_lst, q_item_tup, q_item_str, q_item_dici, q_item_dics, q_set_lst, q_set_dic, q_key_i, q_key_s, q_items_lst, q_items_frz, q_items_tup, q_isi_cl_int, q_isi_cl_bl, q_isi_cl_str, q_isi_cl_tup, q_isi_cl_lst, q_isi_cl_dic, q_isi_cl_non, q_isi_ty_int, q_isi_ty_bl, q_isi_ty_str, q_isi_ty_tup, q_isi_ty_lst, q_isi_ty_dic, q_isi_ty_non, q_isi_exc, q_isi_excv, q_isis_1, q_isis_2, q_isl_0, q_isl_1, q_orO, q_plain_int, q_plain_bl, q_plain_str, q_plain_tup, q_plain_lst, q_plain_dic, q_plain_non, q_rdB, q_rdS, q_rdBo_val, q_rdBo_own, q_rdBo_len, q_rdSo_val, q_rdSo_own, q_setSl, q_setT1, q_setT2, q_setSls0, q_setSls1, q_mod1, q_mod2, q_modS, q_modSo_own, q_modSo_ref, q_isL, q_isLo_own, q_isLo_ref, q_isLl, q_app, q_asgSl_lst, q_asgSl_dic, q_asgSlf_non, q_asgSlf_bl, q_asgSlf_int, q_asgSlf_str, q_asgSlf_tup, q_asgSlf_lst, q_asgSlf_frz, q_asgSlf_dic, q_asgSlf_obj, q_asgSlf_ref, q_asgSlf_fn, q_asgSlf_exc, q_asgSlt_int, q_asgSlt_str, q_asgSlt_bl, q_asgSlt_non, q_asgSlt_tup, q_asgSlt_obj, q_asgSlt_ref, q_isSeq_l, q_isSeq_d, q_frK, q_frE_nm, q_frE_bor, q_frE_kI, q_frE_kS, q_frE_kB, q_frE_kN, q_frE_glo, q_frE_neg, q_frE_not, q_frE_and, q_frE_or, q_frE_cmp, q_frE_cmp2, q_frE_ife, q_frE_callv, q_frE_ask, q_frE_bb, q_frE_isi, q_frE_ix, q_frE_tupD, q_frE_attr, q_frE_nope, q_frE_lstD, q_frE_comp, q_frE_slc, q_frE_dicD, q_frE_list, q_frE_lvals, q_frE_rev, q_frE_add, q_frE_Sub, q_frE_Mult, q_frE_FloorDiv, q_frE_Mod, q_frE_Pow, q_frE_b_len, q_frE_b_abs, q_frE_b_int, q_frE_b_tuple, q_frE_b_bitlen, q_frE_b_upper, q_frE_b_all, q_frE_b_any, q_frE_b_sum, q_frE_b_bool, q_liftP_ok, q_liftP_ex, q_frcK, q_frE_call, q_wlP, q_wlX, q_wlQ, q_wp_liftP, q_wp_lift, q_wp_liftN, q_wpK, q_wp_bind, q_lamP, q_lamX, q_cwp_lam, q_frR_nm, q_frRo_own, q_frRo_val, q_frR_bor, q_frR_kI, q_frR_kS, q_frR_kB, q_frR_kN, q_frR_glo, q_frR_neg, q_frR_not, q_frR_and, q_frR_or, q_frR_cmp, q_frR_cmp2, q_frR_ife, q_frR_callv, q_frR_ask, q_frR_bb, q_frR_isi, q_frR_ix, q_frR_tupD, q_frR_attr, q_frR_nope, q_frR_lstD, q_frR_comp, q_frR_slc, q_frR_dicD, q_frR_bu, q_frR_bin, q_frR_call, q_pairs0, q_pairs2, q_pairO, q_mkDic0, q_mkDic1, q_ixl0, q_ixl1, q_ixl2, q_ixl3, q_ixl4, q_ixl5, q_ixl6, q_ixl7, q_ixl8, q_ixl9, q_ixl10, q_ixl11, q_ixl12, q_ixm1, q_ixm2, e_nm, e_bor, e_kI, e_kS, e_kB, e_kN, e_glo, e_nope, k_binK2, k_binK1, e_bin, q_negO, k_negK, e_neg, k_notK2, k_notK1, e_not, k_blK, k_cmpK2, k_cmpK1, e_cmp, k_c2K3, k_c2K2, k_c2K1, e_cmp2, k_ifeK2, k_ifeK1, e_ife, k_callK, e_call, k_cvK, e_callv, k_askT, e_ask, k_buK, e_bu, k_bbK2, k_bbK1, e_bb, k_isiK, e_isi, k_ixK2, k_ixK1, e_ix, q_slcO_l, q_slcO_s, k_slcK3, k_slcK2, k_slcK1, e_slc, k_tupK, e_tupD, k_lstK, e_lstD, k_dicK2, k_dicK, e_dicD, k_someK, k_compK2, k_compF, k_compK3, k_compK1, e_comp, q_attrO, k_attrK, e_attr, e_es0, k_esK2, k_esK1, e_es1, e_and, e_or, e_a1, k_aK2, k_aK1, e_a2, e_o1, k_oK2, k_oK1, e_o2, k_itvK, e_itv, q_rng1O, q_rng1N, k_rng1K, e_rng1, q_rng2O, k_rng2K2, k_rng2K1, e_rng2, e_o_hole, q_intO, k_evOK, e_o_one, e_c_hole, e_c_one, k_asgK, s_asg, k_ownK, s_own, k_newK, s_new, k_asgTK, s_asgT, k_parK2, k_parK1, s_par, k_setF, k_sixK3, k_sixK2, k_sixK1, s_setIx, k_appK, s_app, k_exprK, s_expr, k_iteK2, k_iteK1, s_ite, k_forB2, k_forB, k_forK0, s_for, k_retK, s_ret, q_raisO, k_raisK, s_rais, item_fr0, item_fr1, dr_fr, setT_fr, isi_fr, isic_fr, plain_fr, len_fr, is_fr, isn_fr, zip1, $ls,*])
section
variable {t : Tx} {k : Nat} {cs : List D}
theorem fm_ex (a : Int) {m : Int} (h : 0 < m) : ∃ v, a.fmod m = v ∧ 0 ≤ v ∧ v < m := ⟨_, rfl, Int.fmod_nonneg_of_pos a h, Int.fmod_lt_of_pos a h⟩
theorem Sm.of_lt {n : Nat} {a : Int} (h0 : 0 ≤ a) (h1 : a < 2 ^ n) : Sm n a := by
  rw [Sm_iff]
  have : ((a.natAbs : Nat) : Int) < ((2 ^ n : Nat) : Int) := by
    rw [Int.natCast_pow]
    show (a.natAbs : Int) < (2 : Int) ^ n
    omega
  omega
theorem ev_mixed [Has t "_law_mixed" b_law_mixed] (hk : 3 ≤ k) {n m : Int} (hm : Sm 1000 m) : ∃ v, callN t k "_law_mixed" [.int n, .int m] cs = .ok (.int v) false cs ∧ 0 ≤ v ∧ v < 268435456 := by
  rw [call_has (d := b_law_mixed) (by omega) rfl rfl]
  dsimp! only [b_law_mixed, mulM, divM]
  obtain ⟨v1, e1, l1, u1⟩ := fm_ex (n.fmod 2147483629 * 48271 + m * 40692 + 69621) (m := 2147483647) (by decide)
  have s1 : Sm 31 v1 := Sm.of_lt l1 (by omega)
  rw [e1, seqK_next]
  dsimp! only [mulM, divM]
  obtain ⟨v2, e2, l2, u2⟩ := fm_ex (v1 * v1 + v1 * 16807 + m * 69997 + 12820163) (m := 2147483629) (by decide)
  have s2 : Sm 31 v2 := Sm.of_lt l2 (by omega)
  rw [e2, seqK_next]
  dsimp! only [mulM, divM]
  obtain ⟨v3, e3, l3, u3⟩ := fm_ex (v2 * 48271 + v2.fdiv 32768 + 7) (m := 2147483647) (by decide)
  have s3 : Sm 31 v3 := Sm.of_lt l3 (by omega)
  rw [e3, seqK_next]
  dsimp! only [mulM, divM]
  obtain ⟨v4, e4, l4, u4⟩ := fm_ex (v3 * v3 + m) (m := 2147483587) (by decide)
  rw [e4, seqK_next]
  simp! only [mulM, divM]
  refine ⟨_, rfl, ?_, ?_⟩
  · rw [Int.fdiv_eq_ediv_of_nonneg _ (by decide)]
    omega
  · rw [Int.fdiv_eq_ediv_of_nonneg _ (by decide)]
    omega
theorem st_get0 {a0 a1 a2 a3 a4 a5 a6 : D} : itemOf (.lst [a0, a1, a2, a3, a4, a5, a6]) (.int 0) = some a0 := rfl
theorem st_set0 {a0 a1 a2 a3 a4 a5 a6 d : D} : setOf (.lst [a0, a1, a2, a3, a4, a5, a6]) (.int 0) d = some (.lst [d, a1, a2, a3, a4, a5, a6]) := rfl
theorem st_get1 {a0 a1 a2 a3 a4 a5 a6 : D} : itemOf (.lst [a0, a1, a2, a3, a4, a5, a6]) (.int 1) = some a1 := rfl
theorem st_set1 {a0 a1 a2 a3 a4 a5 a6 d : D} : setOf (.lst [a0, a1, a2, a3, a4, a5, a6]) (.int 1) d = some (.lst [a0, d, a2, a3, a4, a5, a6]) := rfl
theorem st_get2 {a0 a1 a2 a3 a4 a5 a6 : D} : itemOf (.lst [a0, a1, a2, a3, a4, a5, a6]) (.int 2) = some a2 := rfl
theorem st_set2 {a0 a1 a2 a3 a4 a5 a6 d : D} : setOf (.lst [a0, a1, a2, a3, a4, a5, a6]) (.int 2) d = some (.lst [a0, a1, d, a3, a4, a5, a6]) := rfl
theorem st_get3 {a0 a1 a2 a3 a4 a5 a6 : D} : itemOf (.lst [a0, a1, a2, a3, a4, a5, a6]) (.int 3) = some a3 := rfl
theorem st_set3 {a0 a1 a2 a3 a4 a5 a6 d : D} : setOf (.lst [a0, a1, a2, a3, a4, a5, a6]) (.int 3) d = some (.lst [a0, a1, a2, d, a4, a5, a6]) := rfl
theorem st_get4 {a0 a1 a2 a3 a4 a5 a6 : D} : itemOf (.lst [a0, a1, a2, a3, a4, a5, a6]) (.int 4) = some a4 := rfl
theorem st_set4 {a0 a1 a2 a3 a4 a5 a6 d : D} : setOf (.lst [a0, a1, a2, a3, a4, a5, a6]) (.int 4) d = some (.lst [a0, a1, a2, a3, d, a5, a6]) := rfl
theorem st_get5 {a0 a1 a2 a3 a4 a5 a6 : D} : itemOf (.lst [a0, a1, a2, a3, a4, a5, a6]) (.int 5) = some a5 := rfl
theorem st_set5 {a0 a1 a2 a3 a4 a5 a6 d : D} : setOf (.lst [a0, a1, a2, a3, a4, a5, a6]) (.int 5) d = some (.lst [a0, a1, a2, a3, a4, d, a6]) := rfl
theorem st_get6 {a0 a1 a2 a3 a4 a5 a6 : D} : itemOf (.lst [a0, a1, a2, a3, a4, a5, a6]) (.int 6) = some a6 := rfl
theorem st_set6 {a0 a1 a2 a3 a4 a5 a6 d : D} : setOf (.lst [a0, a1, a2, a3, a4, a5, a6]) (.int 6) d = some (.lst [a0, a1, a2, a3, a4, a5, d]) := rfl
end
end RX

/-! G7: draws from the script. -/
namespace RX
open PySem
local macro_rules
  | `(tactic| decreasing_trivial) => `(tactic| (with_reducible apply Sm.mono; (repeat (first | with_reducible assumption | with_reducible exact Sm.self (OfNat.ofNat _) | with_reducible exact num_bd (by assumption) | with_reducible exact den_bd (by assumption) | with_reducible apply Sm.mul | with_reducible apply Sm.add' | with_reducible apply Sm.sub' | with_reducible apply Sm.neg | (with_reducible apply Sm.fmod (by decide)))); decide))
local macro_rules
  | `(tactic| simp! only [$ls,*]) => `(tactic| simp (disch := first | with_reducible assumption | decreasing_trivial | omega) only [ev_cons, seqK_next, seqK_ret, seqK_cnt, seqK_brk, ev_retN, ev_brk, ev_cnt, ev_pass, ev_nil, bind_ok, bind_ex, bind_bad, wp_ok, wp_ex, wp_bad, cwp_ok, cwp_ex, cwp_bad, cwp_ends, flK_ret, flK_next, fin_eq', fin_same, fin_c1, exK_c1, ends_ex1, exK_eq', exK_same, forL_nil, forK_next, forK_cnt, forK_brk, forK_ret, ct_call, ct_lcall, ct_ask, lift_ok, lift_ex, liftN_ok, ends_ret, ends_next, ends_ex, List.getElem?_cons_zero, List.getElem?_cons_succ, List.getElem?_nil, List.set_cons_zero, List.set_cons_succ, List.map_cons, List.map_nil, List.length_cons, List.length_nil, List.cons_append, List.nil_append, List.replicate_succ, List.replicate_zero, Bool.not_true, Bool.not_false, Bool.false_eq_true, if_true, if_false, reduceIte, decide_true, decide_false, decide_eq_true_eq, Bool.true_or, Bool.false_or, Bool.or_true, Bool.or_false, Bool.true_and, Bool.false_and, Bool.and_true, Bool.and_false, Option.map_some, Option.map_none, Option.bind_some, Option.bind_none, Option.getD_some, Option.getD_none, ite_true, ite_false, Nat.sub_self, Nat.reduceSub, Nat.reduceAdd, Nat.reduceMul, Int.reduceAdd, Int.reduceSub, Int.reduceMul, Int.reduceNeg, Int.reduceLT, Int.reduceLE, Int.reduceEq, Int.reduceNe, Int.reduceToNat, Int.reducePow, String.reduceEq, eq_self, ne_eq, not_true_eq_false, not_false_eq_true, Rat.zero_num, Rat.zero_den, Int.cast_ofNat_Int, q_dr_non, q_dr_bl, q_dr_int, q_dr_str, q_dr_tup, q_dr_lst, q_dr_frz, q_dr_dic, q_dr_obj, q_dr_ref, q_dr_fn, q_dr_exc, q_opt_some, q_opt_none, q_tr, q_truth_non, q_truth_bl, q_truth_int, q_truth_str, q_truth_tup, q_truth_lst, q_truth_dic, q_cmp_Lt, q_cmp_LtE, q_cmp_Gt, q_cmp_GtE, q_cmp_Eq, q_cmp_Ne, q_eq_int, q_eq_str, q_eq_bl, q_Is_nn, q_Is_bb, q_Is_bl, q_Is_int, q_Is_str, q_Is_tup, q_Is_lst, q_Is_frz, q_Is_dic, q_Is_obj, q_Is_ref, q_Is_fn, q_IsNot_nn, q_IsNot_bb, q_IsNot_bl, q_IsNot_int, q_IsNot_str, q_IsNot_tup, q_IsNot_lst, q_IsNot_frz, q_IsNot_dic, q_IsNot_obj, q_IsNot_ref, q_IsNot_fn, q_bin_Add, q_bin_Sub, q_bin_Mult, q_bin_FloorDiv, q_bin_Mod, q_bin_Pow, q_bin_Adds, q_bin_Addl, q_b1_len_str, q_b1_len_lst, q_b1_len_frz, q_b1_len_tup, q_b1_abs_int, q_b1_int_int, q_b1_int_bl, q_b1_bool_int, q_b1_bool_bl, q_b1_list_lst, q_b1_list_frz, q_b1_list_tup, q_b1_list_dic, q_b1_lvals_dic, q_b1_tuple_lst, q_b1_tuple_tup, q_b1_bitlen_int, q_b1_upper_str, q_b1_rev_lst, q_b1_all_lst, q_b1_any_lst, q_b1_sum_lst, q_b2_min, q_b2_max, q_b2_join, q_b2_divmod, q_item_lst, q_item_tup, q_item_str, q_item_dici, q_item_dics, q_set_lst, q_set_dic, q_key_i, q_key_s, q_items_lst, q_items_frz, q_items_tup, q_isi_cl_int, q_isi_cl_bl, q_isi_cl_str, q_isi_cl_tup, q_isi_cl_lst, q_isi_cl_dic, q_isi_cl_non, q_isi_ty_int, q_isi_ty_bl, q_isi_ty_str, q_isi_ty_tup, q_isi_ty_lst, q_isi_ty_dic, q_isi_ty_non, q_isi_exc, q_isi_excv, q_isis_1, q_isis_2, q_isl_0, q_isl_1, q_orO, q_plain_int, q_plain_bl, q_plain_str, q_plain_tup, q_plain_lst, q_plain_dic, q_plain_non, q_rdB, q_rdS, q_rdBo_val, q_rdBo_own, q_rdBo_len, q_rdSo_val, q_rdSo_own, q_setSl, q_setT1, q_setT2, q_setSls0, q_setSls1, q_mod1, q_mod2, q_modS, q_modSo_own, q_modSo_ref, q_isL, q_isLo_own, q_isLo_ref, q_isLl, q_app, q_asgSl_lst, q_asgSl_dic, q_asgSlf_non, q_asgSlf_bl, q_asgSlf_int, q_asgSlf_str, q_asgSlf_tup, q_asgSlf_lst, q_asgSlf_frz, q_asgSlf_dic, q_asgSlf_obj, q_asgSlf_ref, q_asgSlf_fn, q_asgSlf_exc, q_asgSlt_int, q_asgSlt_str, q_asgSlt_bl, q_asgSlt_non, q_asgSlt_tup, q_asgSlt_obj, q_asgSlt_ref, q_isSeq_l, q_isSeq_d, q_frK, q_frE_nm, q_frE_bor, q_frE_kI, q_frE_kS, q_frE_kB, q_frE_kN, q_frE_glo, q_frE_neg, q_frE_not, q_frE_and, q_frE_or, q_frE_cmp, q_frE_cmp2, q_frE_ife, q_frE_callv, q_frE_ask, q_frE_bb, q_frE_isi, q_frE_ix, q_frE_tupD, q_frE_attr, q_frE_nope, q_frE_lstD, q_frE_comp, q_frE_slc, q_frE_dicD, q_frE_list, q_frE_lvals, q_frE_rev, q_frE_add, q_frE_Sub, q_frE_Mult, q_frE_FloorDiv, q_frE_Mod, q_frE_Pow, q_frE_b_len, q_frE_b_abs, q_frE_b_int, q_frE_b_tuple, q_frE_b_bitlen, q_frE_b_upper, q_frE_b_all, q_frE_b_any, q_frE_b_sum, q_frE_b_bool, q_liftP_ok, q_liftP_ex, q_frcK, q_frE_call, q_wlP, q_wlX, q_wlQ, q_wp_liftP, q_wp_lift, q_wp_liftN, q_wpK, q_wp_bind, q_lamP, q_lamX, q_cwp_lam, q_frR_nm, q_frRo_own, q_frRo_val, q_frR_bor, q_frR_kI, q_frR_kS, q_frR_kB, q_frR_kN, q_frR_glo, q_frR_neg, q_frR_not, q_frR_and, q_frR_or, q_frR_cmp, q_frR_cmp2, q_frR_ife, q_frR_callv, q_frR_ask, q_frR_bb, q_frR_isi, q_frR_ix, q_frR_tupD, q_frR_attr, q_frR_nope, q_frR_lstD, q_frR_comp, q_frR_slc, q_frR_dicD, q_frR_bu, q_frR_bin, q_frR_call, q_pairs0, q_pairs2, q_pairO, q_mkDic0, q_mkDic1, q_ixl0, q_ixl1, q_ixl2, q_ixl3, q_ixl4, q_ixl5, q_ixl6, q_ixl7, q_ixl8, q_ixl9, q_ixl10, q_ixl11, q_ixl12, q_ixm1, q_ixm2, e_nm, e_bor, e_kI, e_kS, e_kB, e_kN, e_glo, e_nope, k_binK2, k_binK1, e_bin, q_negO, k_negK, e_neg, k_notK2, k_notK1, e_not, k_blK, k_cmpK2, k_cmpK1, e_cmp, k_c2K3, k_c2K2, k_c2K1, e_cmp2, k_ifeK2, k_ifeK1, e_ife, k_callK, e_call, k_cvK, e_callv, k_askT, e_ask, k_buK, e_bu, k_bbK2, k_bbK1, e_bb, k_isiK, e_isi, k_ixK2, k_ixK1, e_ix, q_slcO_l, q_slcO_s, k_slcK3, k_slcK2, k_slcK1, e_slc, k_tupK, e_tupD, k_lstK, e_lstD, k_dicK2, k_dicK, e_dicD, k_someK, k_compK2, k_compF, k_compK3, k_compK1, e_comp, q_attrO, k_attrK, e_attr, e_es0, k_esK2, k_esK1, e_es1, e_and, e_or, e_a1, k_aK2, k_aK1, e_a2, e_o1, k_oK2, k_oK1, e_o2, k_itvK, e_itv, q_rng1O, q_rng1N, k_rng1K, e_rng1, q_rng2O, k_rng2K2, k_rng2K1, e_rng2, e_o_hole, q_intO, k_evOK, e_o_one, e_c_hole, e_c_one, k_asgK, s_asg, k_ownK, s_own, k_newK, s_new, k_asgTK, s_asgT, k_parK2, k_parK1, s_par, k_setF, k_sixK3, k_sixK2, k_sixK1, s_setIx, k_appK, s_app, k_exprK, s_expr, k_iteK2, k_iteK1, s_ite, k_forB2, k_forB, k_forK0, s_for, k_retK, s_ret, q_raisO, k_raisK, s_rais, item_fr0, item_fr1, dr_fr, setT_fr, isi_fr, isic_fr, plain_fr, len_fr, is_fr, isn_fr, zip1, st_get0, st_set0, st_get1, st_set1, st_get2, st_set2, st_get3, st_set3, st_get4, st_set4, st_get5, st_set5, st_get6, st_set6, $ls,*])
local macro_rules
  | `(tactic| dsimp! only [$ls,*]) => `(tactic| simp (disch := first | with_reducible assumption | decreasing_trivial | omega) only [ev_cons, seqK_ret, seqK_cnt, seqK_brk, ev_retN, ev_brk, ev_cnt, ev_pass, ev_nil, bind_ok, bind_ex, bind_bad, wp_ok, wp_ex, wp_bad, cwp_ok, cwp_ex, cwp_bad, cwp_ends, flK_ret, flK_next, fin_eq', fin_same, fin_c1, exK_c1, ends_ex1, exK_eq', exK_same, forL_nil, forK_next, forK_cnt, forK_brk, forK_ret, ct_call, ct_lcall, ct_ask, lift_ok, lift_ex, liftN_ok, ends_ret, ends_next, ends_ex, List.getElem?_cons_zero, List.getElem?_cons_succ, List.getElem?_nil, List.set_cons_zero, List.set_cons_succ, List.map_cons, List.map_nil, List.length_cons, List.length_nil, List.cons_append, List.nil_append, List.replicate_succ, List.replicate_zero, Bool.not_true, Bool.not_false, Bool.false_eq_true, if_true, if_false, reduceIte, decide_true, decide_false, decide_eq_true_eq, Bool.true_or, Bool.false_or, Bool.or_true, Bool.or_false, Bool.true_and, Bool.false_and, Bool.and_true, Bool.and_false, Option.map_some, Option.map_none, Option.bind_some, Option.bind_none, Option.getD_some, Option.getD_none, ite_true, ite_false, Nat.sub_self, Nat.reduceSub, Nat.reduceAdd, Nat.reduceMul, Int.reduceAdd, Int.reduceSub, Int.reduceMul, Int.reduceNeg, Int.reduceLT, Int.reduceLE, Int.reduceEq, Int.reduceNe, Int.reduceToNat, Int.reducePow, String.reduceEq, eq_self, ne_eq, not_true_eq_false, not_false_eq_true, Rat.zero_num, Rat.zero_den, Int.cast_ofNat_Int, q_dr_non, q_dr_bl, q_dr_int, q_dr_str, q_dr_tup, q_dr_lst, q_dr_frz, q_dr_dic, q_dr_obj, q_dr_ref, q_dr_fn, q_dr_exc, q_opt_some, q_opt_none, q_tr, q_truth_non, q_truth_bl, q_truth_int, q_truth_str, q_truth_tup, q_truth_lst, q_truth_dic, q_cmp_Lt, q_cmp_LtE, q_cmp_Gt, q_cmp_GtE, q_cmp_Eq, q_cmp_Ne, q_eq_int, q_eq_str, q_eq_bl, q_Is_nn, q_Is_bb, q_Is_bl, q_Is_int, q_Is_str, q_Is_tup, q_Is_lst, q_Is_frz, q_Is_dic, q_Is_obj, q_Is_ref, q_Is_fn, q_IsNot_nn, q_IsNot_bb, q_IsNot_bl, q_IsNot_int, q_IsNot_str, q_IsNot_tup, q_IsNot_lst, q_IsNot_frz, q_IsNot_dic, q_IsNot_obj, q_IsNot_ref, q_IsNot_fn, q_bin_Add, q_bin_Sub, q_bin_Mult, q_bin_FloorDiv, q_bin_Mod, q_bin_Pow, q_bin_Adds, q_bin_Addl, q_b1_len_str, q_b1_len_lst, q_b1_len_frz, q_b1_len_tup, q_b1_abs_int, q_b1_int_int, q_b1_int_bl, q_b1_bool_int, q_b1_bool_bl, q_b1_list_lst, q_b1_list_frz, q_b1_list_tup, q_b1_list_dic, q_b1_lvals_dic, q_b1_tuple_lst, q_b1_tuple_tup, q_b1_bitlen_int, q_b1_upper_str, q_b1_rev_lst, q_b1_all_lst, q_b1_any_lst, q_b1_sum_lst, q_b2_min, q_b2_max, q_b2_join, q_b2_divmod, q_item_lst, q_item_tup, q_item_str, q_item_dici, q_item_dics, q_set_lst, q_set_dic, q_key_i, q_key_s, q_items_lst, q_items_frz, q_items_tup, q_isi_cl_int, q_isi_cl_bl, q_isi_cl_str, q_isi_cl_tup, q_isi_cl_lst, q_isi_cl_dic, q_isi_cl_non, q_isi_ty_int, q_isi_ty_bl, q_isi_ty_str, q_isi_ty_tup, q_isi_ty_lst, q_isi_ty_dic, q_isi_ty_non, q_isi_exc, q_isi_excv, q_isis_1, q_isis_2, q_isl_0, q_isl_1, q_orO, q_plain_int, q_plain_bl, q_plain_str, q_plain_tup, q_plain_lst, q_plain_dic, q_plain_non, q_rdB, q_rdS, q_rdBo_val, q_rdBo_own, q_rdBo_len, q_rdSo_val, q_rdSo_own, q_setSl, q_setT1, q_setT2, q_setSls0, q_setSls1, q_mod1, q_mod2, q_modS, q_modSo_own, q_modSo_ref, q_isL, q_isLo_own, q_isLo_ref, q_isLl, q_app, q_asgSl_lst, q_asgSl_dic, q_asgSlf_non, q_asgSlf_bl, q_asgSlf_int, q_asgSlf_str, q_asgSlf_tup, q_asgSlf_lst, q_asgSlf_frz, q_asgSlf_dic, q_asgSlf_obj, q_asgSlf_ref, q_asgSlf_fn, q_asgSlf_exc, q_asgSlt_int, q_asgSlt_str, q_asgSlt_bl, q_asgSlt_non, q_asgSlt_tup, q_asgSlt_obj, q_asgSlt_ref, q_isSeq_l, q_isSeq_d, q_frK, q_frE_nm, q_frE_bor, q_frE_kI, q_frE_kS, q_frE_kB, q_frE_kN, q_frE_glo, q_frE_neg, q_frE_not, q_frE_and, q_frE_or, q_frE_cmp, q_frE_cmp2, q_frE_ife, q_frE_callv, q_frE_ask, q_frE_bb, q_frE_isi, q_frE_ix, q_frE_tupD, q_frE_attr, q_frE_nope, q_frE_lstD, q_frE_comp, q_frE_slc, q_frE_dicD, q_frE_list, q_frE_lvals, q_frE_rev, q_frE_add, q_frE_Sub, q_frE_Mult, q_frE_FloorDiv, q_frE_Mod, q_frE_Pow, q_frE_b_len, q_frE_b_abs, q_frE_b_int, q_frE_b_tuple, q_frE_b_bitlen, q_frE_b_upper, q_frE_b_all, q_frE_b_any, q_frE_b_sum, q_frE_b_bool, q_liftP_ok, q_liftP_ex, q_frcK, q_frE_call, q_wlP, q_wlX, q_wlQ, q_wp_liftP, q_wp_lift, q_wp_liftN, q_wpK, q_wp_bind, q_lamP, q_lamX, q_cwp_lam, q_frR_nm, q_frRo_own, q_frRo_val, q_frR_bor, q_frR_kI, q_frR_kS, q_frR_kB, q_frR_kN, q_frR_glo, q_frR_neg, q_frR_not, q_frR_and, q_frR_or, q_frR_cmp, q_frR_cmp2, q_frR_ife, q_frR_callv, q_frR_ask, q_frR_bb, q_frR_isi, q_frR_ix, q_frR_tupD, q_frR_attr, q_frR_nope, q_frR_lstD, q_frR_comp, q_frR_slc, q_frR_dicD, q_frR_bu, q_frR_bin, q_frR_call, q_pairs0, q_pairs2, q_pairO, q_mkDic0, q_mkDic1, q_ixl0, q_ixl1, q_ixl2, q_ixl3, q_ixl4, q_ixl5, q_ixl6, q_ixl7, q_ixl8, q_ixl9, q_ixl10, q_ixl11, q_ixl12, q_ixm1, q_ixm2, e_nm, e_bor, e_kI, e_kS, e_kB, e_kN, e_glo, e_nope, k_binK2, k_binK1, e_bin, q_negO, k_negK, e_neg, k_notK2, k_notK1, e_not, k_blK, k_cmpK2, k_cmpK1, e_cmp, k_c2K3, k_c2K2, k_c2K1, e_cmp2, k_ifeK2, k_ifeK1, e_ife, k_callK, e_call, k_cvK, e_callv, k_askT, e_ask, k_buK, e_bu, k_bbK2, k_bbK1, e_bb, k_isiK, e_isi, k_ixK2, k_ixK1, e_ix, q_slcO_l, q_slcO_s, k_slcK3, k_slcK2, k_slcK1, e_slc, k_tupK, e_tupD, k_lstK, e_lstD, k_dicK2, k_dicK, e_dicD, k_someK, k_compK2, k_compF, k_compK3, k_compK1, e_comp, q_attrO, k_attrK, e_attr, e_es0, k_esK2, k_esK1, e_es1, e_and, e_or, e_a1, k_aK2, k_aK1, e_a2, e_o1, k_oK2, k_oK1, e_o2, k_itvK, e_itv, q_rng1O, q_rng1N, k_rng1K, e_rng1, q_rng2O, k_rng2K2, k_rng2K1, e_rng2, e_o_hole, q_intO, k_evOK, e_o_one, e_c_hole, e_c_one, k_asgK, s_asg, k_ownK, s_own, k_newK, s_new, k_asgTK, s_asgT, k_parK2, k_parK1, s_par, k_setF, k_sixK3, k_sixK2, k_sixK1, s_setIx, k_appK, s_app, k_exprK, s_expr, k_iteK2, k_iteK1, s_ite, k_forB2, k_forB, k_forK0, s_for, k_retK, s_ret, q_raisO, k_raisK, s_rais, item_fr0, item_fr1, dr_fr, setT_fr, isi_fr, isic_fr, plain_fr, len_fr, is_fr, isn_fr, zip1, st_get0, st_set0, st_get1, st_set1, st_get2, st_set2, st_get3, st_set3, st_get4, st_set4, st_get5, st_set5, st_get6, st_set6, $ls,*])
section
variable {t : Tx} {k : Nat} {cs : List D}
/-- the store of draws -/
def St (N : Nat) (s : D) : Prop := ∃ (xs : List Int) (pos big cnt seed f5 f6 : Int), s = .lst [.lst (xs.map D.int), .int pos, .int big, .int cnt, .int seed, .int f5, .int f6] ∧
  0 ≤ pos ∧ (∀ z ∈ xs, Sm 1048576 z) ∧ 0 ≤ big ∧ Sm 1048576 big ∧ 0 ≤ cnt ∧ cnt ≤ N
theorem St.mono {N M : Nat} {s : D} (h : St N s) (hm : N ≤ M) : St M s := by
  obtain ⟨xs, pos, big, cnt, seed, f5, f6, h1, h2, h3, h4, h5, h6, h7⟩ := h
  exact ⟨xs, pos, big, cnt, seed, f5, f6, h1, h2, h3, h4, h5, h6, by omega⟩
def takeTail : S := match b_law_take.body with
  | .cons _ (.cons _ (.cons _ r)) => r
  | _ => .nil
theorem getElem?_map_int {xs : List Int} {i : Nat} (h : i < xs.length) : (xs.map D.int)[i]? = some (.int xs[i]) := by
  simp [h]
theorem rangeD_mem {lo : Int} {n : Nat} {x : D} (h : x ∈ rangeD lo n) : ∃ i : Nat, x = .int (lo + i) ∧ i < n := by
  unfold rangeD at h
  obtain ⟨i, hi, rfl⟩ := List.mem_map.mp h
  exact ⟨i, rfl, List.mem_range.mp hi⟩
/-- what a draw gives -/
def TakeQ (N : Nat) (m : Int) (r : List D) (d : D) (fr : Bool) (cs : List D) : Prop := ∃ v s', d = .int v ∧ fr = false ∧ cs = s' :: r ∧ St N s' ∧ 0 ≤ v ∧ (1 ≤ m → v < m)
theorem bitlen_le {n : Nat} {m : Int} (h : Sm n m) : (Builtin.Int.intBits m : Int) ≤ n := by
  have := bits_of h
  omega
theorem rng_lt {m : Int} (h : Sm 9000 m) : rngOk (1 + (Builtin.Int.intBits m : Int).fdiv 24) = true ∧ (1 + (Builtin.Int.intBits m : Int).fdiv 24).toNat ≤ 376 := by
  have := bitlen_le h
  rw [Int.fdiv_eq_ediv_of_nonneg _ (by decide)]
  unfold rngOk
  constructor
  · simp
    omega
  · omega
theorem take_tail [Has t "_law_mixed" b_law_mixed] (hk : 3 ≤ k) {fl : Flds} {m : Int} (hm : Sm 9000 m) (h2 : 2 ≤ m) {N : Nat} (hN : N ≤ 1000000000) {s : D} {r : List D} (hS : St N s) {s2 : Sl} :
    (evS fl (ctOf t (lev t k)) takeTail ⟨[.val (.ref 0), .val (.int m), s2, .no, .no, .no, .no], s :: r⟩).wp (flK (s :: r).length (TakeQ N m r) (fun _ _ _ => False)) (exK (s :: r).length fun _ _ _ => False) := by
  obtain ⟨xs, pos, big, cnt, seed, f5, f6, rfl, h3, h4, h5, h6, h7, h8⟩ := hS
  have m0 : m ≠ 0 := by omega
  have mp : 0 < m := by omega
  have loop : ∀ (n : Int) (f5 : Int) , (evS fl (ctOf t (lev t k)) (match takeTail with | .cons _ (.cons _ (.cons _ r)) => r | _ => .nil) ⟨[.val (.ref 0), .val (.int m), s2, .no, .val (.int n), .no, .no], (.lst [.lst (xs.map D.int), .int pos, .int big, .int cnt, .int seed, .int f5, .int f6]) :: r⟩).wp (flK (D.non :: r).length (TakeQ N m r) (fun _ _ _ => False)) (exK (D.non :: r).length fun _ _ _ => False) := by
    intro n f5
    dsimp only [takeTail, b_law_take]
    obtain ⟨o1, o2⟩ := rng_lt hm
    simp! only [divM, o1]
    have o3 : ∀ x ∈ rangeD 0 (1 + (Builtin.Int.intBits m : Int).fdiv 24).toNat, ∃ i : Nat, x = .int i ∧ i < 376 := fun x hx => by
      obtain ⟨i, rfl, hi⟩ := rangeD_mem hx
      exact ⟨i, by simp, by omega⟩
    have o4 : (rangeD 0 (1 + (Builtin.Int.intBits m : Int).fdiv 24).toNat).length ≤ 376 := by
      unfold rangeD
      simp
      omega
    generalize rangeD 0 (1 + (Builtin.Int.intBits m : Int).fdiv 24).toNat = js at o3 o4
    refine forL_wp (fun l w => ∃ v s6, w = ⟨[.val (.ref 0), .val (.int m), s2, .no, .val (.int n), .val (.int v), s6], (.lst [.lst (xs.map D.int), .int pos, .int big, .int cnt, .int seed, .int f5, .int f6]) :: r⟩ ∧ 0 ≤ v ∧ (∀ x ∈ l, ∃ i : Nat, x = .int i ∧ i < 376) ∧ Sm (28 * (376 - l.length)) v ∧ l.length ≤ 376) ?_ ?_ _ _ ⟨0, _, rfl, by decide, o3, ?_, o4⟩
    · rintro x l w ⟨v, s6, rfl, hv, hl, hs, hc⟩
      obtain ⟨i, rfl, hi⟩ := hl x List.mem_cons_self
      have hcs : Sm 100 (cnt * 64 + (i : Int)) := Sm.of_lt (by omega) (by omega)
      have hcn : Sm 100 cnt := Sm.of_lt (by omega) (by omega)
      have hv2 : Sm 20000 v := hs.mono (by omega)
      obtain ⟨u, eu, u0, u1⟩ := ev_mixed (t := t) (k := k) (cs := (.lst [.lst (xs.map D.int), .int pos, .int big, .int cnt, .int seed, .int f5, .int f6]) :: r) hk (n := n) (m := cnt * 64 + (i : Int)) (hcs.mono (by decide))
      simp! only [mulM, eu]
      refine ⟨_, _, rfl, ?_, fun x hx => hl x (List.mem_cons_of_mem _ hx), ?_, by simp at hc; omega⟩
      · omega
      · simp only [List.length_cons] at hs hc
        have e1 : 28 * (376 - l.length) = 28 * (376 - (l.length + 1)) + 28 := by omega
        rw [e1]
        generalize 28 * (376 - (l.length + 1)) = q at hs ⊢
        rw [Sm_iff] at hs ⊢
        rw [Nat.pow_add]
        have : v.natAbs + 1 ≤ 2 ^ q := hs
        have h3 : (v.natAbs + 1) * 268435456 ≤ 2 ^ q * 268435456 := Nat.mul_le_mul_right _ this
        have h4 : (2 : Nat) ^ 28 = 268435456 := by decide
        rw [h4]
        omega
    · rintro w ⟨v, s6, rfl, hv, _⟩
      simp! only [m0]
      exact ⟨_, _, rfl, rfl, rfl, ⟨xs, pos, big, cnt, seed, f5, f6, rfl, h3, h4, h5, h6, h7, h8⟩, Int.fmod_nonneg_of_pos _ mp, fun _ => Int.fmod_lt_of_pos _ mp⟩
    · rw [Sm_iff]
      exact Nat.pos_of_ne_zero (by simp)
  dsimp only [takeTail, b_law_take]
  by_cases hb : 1 < big
  · simp! only [hb, m0, divM]
    refine ⟨_, _, rfl, rfl, rfl, ⟨xs, pos, _, cnt, seed, f5, f6, rfl, h3, h4, ?_, ?_, h7, h8⟩, Int.fmod_nonneg_of_pos _ mp, fun _ => Int.fmod_lt_of_pos _ mp⟩
    · rw [Int.fdiv_eq_ediv_of_nonneg _ (Int.le_of_lt mp)]
      exact Int.ediv_nonneg h5 (Int.le_of_lt mp)
    · exact h6.fdiv h5 mp
  · by_cases h5' : 0 < f5
    · dsimp! only [hb]
      rw [seqK_next]
      dsimp! only []
      rw [seqK_next]
      dsimp! only [h5']
      rw [seqK_next]
      dsimp! only []
      rw [seqK_next]
      exact loop f6 (f5 - 1)
    · dsimp! only [hb]
      rw [seqK_next]
      dsimp! only []
      rw [seqK_next]
      dsimp! only [h5']
      rw [seqK_next]
      exact loop seed f5
end
end RX

/-! G8: draws. -/
namespace RX
open PySem
local macro_rules
  | `(tactic| decreasing_trivial) => `(tactic| (with_reducible apply Sm.mono; (repeat (first | with_reducible assumption | with_reducible exact Sm.self (OfNat.ofNat _) | with_reducible exact num_bd (by assumption) | with_reducible exact den_bd (by assumption) | with_reducible apply Sm.mul | with_reducible apply Sm.add' | with_reducible apply Sm.sub' | with_reducible apply Sm.neg | (with_reducible apply Sm.fmod (by decide)))); decide))
local macro_rules
  | `(tactic| simp! only [$ls,*]) => `(tactic| simp (disch := first | with_reducible assumption | decreasing_trivial | with_reducible exact pure_frD _ | omega) only [ev_cons, seqK_next, seqK_ret, seqK_cnt, seqK_brk, ev_retN, ev_brk, ev_cnt, ev_pass, ev_nil, bind_ok, bind_ex, bind_bad, wp_ok, wp_ex, wp_bad, cwp_ok, cwp_ex, cwp_bad, cwp_ends, flK_ret, flK_next, fin_eq', fin_same, fin_c1, exK_c1, ends_ex1, exK_eq', exK_same, forL_nil, forK_next, forK_cnt, forK_brk, forK_ret, ct_call, ct_lcall, ct_ask, lift_ok, lift_ex, liftN_ok, ends_ret, ends_next, ends_ex, List.getElem?_cons_zero, List.getElem?_cons_succ, List.getElem?_nil, List.set_cons_zero, List.set_cons_succ, List.map_cons, List.map_nil, List.length_cons, List.length_nil, List.cons_append, List.nil_append, List.replicate_succ, List.replicate_zero, Bool.not_true, Bool.not_false, Bool.false_eq_true, if_true, if_false, reduceIte, decide_true, decide_false, decide_eq_true_eq, Bool.true_or, Bool.false_or, Bool.or_true, Bool.or_false, Bool.true_and, Bool.false_and, Bool.and_true, Bool.and_false, Option.map_some, Option.map_none, Option.bind_some, Option.bind_none, Option.getD_some, Option.getD_none, ite_true, ite_false, Nat.sub_self, Nat.reduceSub, Nat.reduceAdd, Nat.reduceMul, Int.reduceAdd, Int.reduceSub, Int.reduceMul, Int.reduceNeg, Int.reduceLT, Int.reduceLE, Int.reduceEq, Int.reduceNe, Int.reduceToNat, Int.reducePow, String.reduceEq, eq_self, ne_eq, not_true_eq_false, not_false_eq_true, Rat.zero_num, Rat.zero_den, Int.cast_ofNat_Int, q_dr_non, q_dr_bl, q_dr_int, q_dr_str, q_dr_tup, q_dr_lst, q_dr_frz, q_dr_dic, q_dr_obj, q_dr_ref, q_dr_fn, q_dr_exc, q_opt_some, q_opt_none, q_tr, q_truth_non, q_truth_bl, q_truth_int, q_truth_str, q_truth_tup, q_truth_lst, q_truth_dic, q_cmp_Lt, q_cmp_LtE, q_cmp_Gt, q_cmp_GtE, q_cmp_Eq, q_cmp_Ne, q_eq_int, q_eq_str, q_eq_bl, q_Is_nn, q_Is_bb, q_Is_bl, q_Is_int, q_Is_str, q_Is_tup, q_Is_lst, q_Is_frz, q_Is_dic, q_Is_obj, q_Is_ref, q_Is_fn, q_IsNot_nn, q_IsNot_bb, q_IsNot_bl, q_IsNot_int, q_IsNot_str, q_IsNot_tup, q_IsNot_lst, q_IsNot_frz, q_IsNot_dic, q_IsNot_obj, q_IsNot_ref, q_IsNot_fn, q_bin_Add, q_bin_Sub, q_bin_Mult, q_bin_FloorDiv, q_bin_Mod, q_bin_Pow, q_bin_Adds, q_bin_Addl, q_b1_len_str, q_b1_len_lst, q_b1_len_frz, q_b1_len_tup, q_b1_abs_int, q_b1_int_int, q_b1_int_bl, q_b1_bool_int, q_b1_bool_bl, q_b1_list_lst, q_b1_list_frz, q_b1_list_tup, q_b1_list_dic, q_b1_lvals_dic, q_b1_tuple_lst, q_b1_tuple_tup, q_b1_bitlen_int, q_b1_upper_str, q_b1_rev_lst, q_b1_all_lst, q_b1_any_lst, q_b1_sum_lst, q_b2_min, q_b2_max, q_b2_join, q_b2_divmod, q_item_lst, q_item_tup, q_item_str, q_item_dici, q_item_dics, q_set_lst, q_set_dic, q_key_i, q_key_s, q_items_lst, q_items_frz, q_items_tup, q_isi_cl_int, q_isi_cl_bl, q_isi_cl_str, q_isi_cl_tup, q_isi_cl_lst, q_isi_cl_dic, q_isi_cl_non, q_isi_ty_int, q_isi_ty_bl, q_isi_ty_str, q_isi_ty_tup, q_isi_ty_lst, q_isi_ty_dic, q_isi_ty_non, q_isi_exc, q_isi_excv, q_isis_1, q_isis_2, q_isl_0, q_isl_1, q_orO, q_plain_int, q_plain_bl, q_plain_str, q_plain_tup, q_plain_lst, q_plain_dic, q_plain_non, q_rdB, q_rdS, q_rdBo_val, q_rdBo_own, q_rdBo_len, q_rdSo_val, q_rdSo_own, q_setSl, q_setT1, q_setT2, q_setSls0, q_setSls1, q_mod1, q_mod2, q_modS, q_modSo_own, q_modSo_ref, q_isL, q_isLo_own, q_isLo_ref, q_isLl, q_app, q_asgSl_lst, q_asgSl_dic, q_asgSlf_non, q_asgSlf_bl, q_asgSlf_int, q_asgSlf_str, q_asgSlf_tup, q_asgSlf_lst, q_asgSlf_frz, q_asgSlf_dic, q_asgSlf_obj, q_asgSlf_ref, q_asgSlf_fn, q_asgSlf_exc, q_asgSlt_int, q_asgSlt_str, q_asgSlt_bl, q_asgSlt_non, q_asgSlt_tup, q_asgSlt_obj, q_asgSlt_ref, q_isSeq_l, q_isSeq_d, q_frK, q_frE_nm, q_frE_bor, q_frE_kI, q_frE_kS, q_frE_kB, q_frE_kN, q_frE_glo, q_frE_neg, q_frE_not, q_frE_and, q_frE_or, q_frE_cmp, q_frE_cmp2, q_frE_ife, q_frE_callv, q_frE_ask, q_frE_bb, q_frE_isi, q_frE_ix, q_frE_tupD, q_frE_attr, q_frE_nope, q_frE_lstD, q_frE_comp, q_frE_slc, q_frE_dicD, q_frE_list, q_frE_lvals, q_frE_rev, q_frE_add, q_frE_Sub, q_frE_Mult, q_frE_FloorDiv, q_frE_Mod, q_frE_Pow, q_frE_b_len, q_frE_b_abs, q_frE_b_int, q_frE_b_tuple, q_frE_b_bitlen, q_frE_b_upper, q_frE_b_all, q_frE_b_any, q_frE_b_sum, q_frE_b_bool, q_liftP_ok, q_liftP_ex, q_frcK, q_frE_call, q_wlP, q_wlX, q_wlQ, q_wp_liftP, q_wp_lift, q_wp_liftN, q_wpK, q_wp_bind, q_lamP, q_lamX, q_cwp_lam, q_frR_nm, q_frRo_own, q_frRo_val, q_frR_bor, q_frR_kI, q_frR_kS, q_frR_kB, q_frR_kN, q_frR_glo, q_frR_neg, q_frR_not, q_frR_and, q_frR_or, q_frR_cmp, q_frR_cmp2, q_frR_ife, q_frR_callv, q_frR_ask, q_frR_bb, q_frR_isi, q_frR_ix, q_frR_tupD, q_frR_attr, q_frR_nope, q_frR_lstD, q_frR_comp, q_frR_slc, q_frR_dicD, q_frR_bu, q_frR_bin, q_frR_call, q_pairs0, q_pairs2, q_pairO, q_mkDic0, q_mkDic1, q_ixl0, q_ixl1, q_ixl2, q_ixl3, q_ixl4, q_ixl5, q_ixl6, q_ixl7, q_ixl8, q_ixl9, q_ixl10, q_ixl11, q_ixl12, q_ixm1, q_ixm2, e_nm, e_bor, e_kI, e_kS, e_kB, e_kN, e_glo, e_nope, k_binK2, k_binK1, e_bin, q_negO, k_negK, e_neg, k_notK2, k_notK1, e_not, k_blK, k_cmpK2, k_cmpK1, e_cmp, k_c2K3, k_c2K2, k_c2K1, e_cmp2, k_ifeK2, k_ifeK1, e_ife, k_callK, e_call, k_cvK, e_callv, k_askT, e_ask, k_buK, e_bu, k_bbK2, k_bbK1, e_bb, k_isiK, e_isi, k_ixK2, k_ixK1, e_ix, q_slcO_l, q_slcO_s, k_slcK3, k_slcK2, k_slcK1, e_slc, k_tupK, e_tupD, k_lstK, e_lstD, k_dicK2, k_dicK, e_dicD, k_someK, k_compK2, k_compF, k_compK3, k_compK1, e_comp, q_attrO, k_attrK, e_attr, e_es0, k_esK2, k_esK1, e_es1, e_and, e_or, e_a1, k_aK2, k_aK1, e_a2, e_o1, k_oK2, k_oK1, e_o2, k_itvK, e_itv, q_rng1O, q_rng1N, k_rng1K, e_rng1, q_rng2O, k_rng2K2, k_rng2K1, e_rng2, e_o_hole, q_intO, k_evOK, e_o_one, e_c_hole, e_c_one, k_asgK, s_asg, k_ownK, s_own, k_newK, s_new, k_asgTK, s_asgT, k_parK2, k_parK1, s_par, k_setF, k_sixK3, k_sixK2, k_sixK1, s_setIx, k_appK, s_app, k_exprK, s_expr, k_iteK2, k_iteK1, s_ite, k_forB2, k_forB, k_forK0, s_for, k_retK, s_ret, q_raisO, k_raisK, s_rais, item_fr0, item_fr1, dr_fr, setT_fr, isi_fr, isic_fr, plain_fr, len_fr, is_fr, isn_fr, zip1, st_get0, st_set0, st_get1, st_set1, st_get2, st_set2, st_get3, st_set3, st_get4, st_set4, st_get5, st_set5, st_get6, st_set6, $ls,*])
section
variable {t : Tx} {k : Nat} {cs : List D}
/-- no error -/
abbrev nox (C : String) (fs : List (String × D)) (cs : List D) : Prop := False
def hdS : S → S
  | .cons a _ => a
  | _ => .nil
def tlS : S → S
  | .cons _ r => r
  | _ => .nil
def take1 : S := hdS b_law_take.body
def take2 : S := hdS (tlS b_law_take.body)
def take3 : S := hdS (tlS (tlS b_law_take.body))
theorem take_eq : b_law_take.body = .cons take1 (.cons take2 (.cons take3 takeTail)) := rfl
theorem take_wp [Has t "_law_mixed" b_law_mixed] [Has t "_law_take" b_law_take] (hk : 4 ≤ k) {N : Nat} {s : D} {r : List D} (hS : St N s) {m : Int} (hm : Sm 9000 m) (hN : N < 1000000000) :
    (callN t k "_law_take" [.ref 0, .int m] (s :: r)).wp (TakeQ (N + 1) m r) nox := by
  rw [call_has (d := b_law_take) (by omega) rfl rfl]
  by_cases h2 : m < 2
  · simp! only [b_law_take, h2]
    exact ⟨0, s, rfl, rfl, rfl, hS.mono (by omega), by decide, fun _ => by omega⟩
  · obtain ⟨xs, pos, big, cnt, seed, f5, f6, rfl, h3, h4, h5, h6, h7, h8⟩ := hS
    have tl := fun {s : D} {s2 : Sl} (hS : St (N + 1) s) => take_tail (t := t) (k := k - 1) (by omega) (fl := t.fl) hm (by omega) (by omega : N + 1 ≤ 1000000000) (r := r) (s2 := s2) hS
    have e0 : (10 : Int) ^ Int.toNat 18 = 1000000000000000000 := by decide
    have p0 : powOk 10 18 = true := by decide
    rw [take_eq]
    simp! only [take1, take2, hdS, tlS, b_law_take, h2]
    dsimp only [take3, b_law_take, hdS, tlS]
    by_cases c1 : big < 2
    · by_cases c2 : f5 < 1
      · by_cases c3 : pos < (xs.length : Int)
        · have c4 : pos.toNat < xs.length := by omega
          have hz := h4 _ (List.getElem_mem c4)
          have c5 : ixOf xs.length pos = some pos.toNat := q_ix_nn h3 c3
          by_cases c6 : ((xs[pos.toNat].natAbs : Int)) < 1000000000000000000
          · simp! only [c1, c2, c3, List.length_map, c5, getElem?_map_int c4, abs_if, p0, e0, c6]
            refine tl ⟨xs, _, _, _, _, _, _, rfl, by omega, h4, h5, h6, by omega, by omega⟩
          · simp! only [c1, c2, c3, List.length_map, c5, getElem?_map_int c4, abs_if, p0, e0, c6]
            refine tl ⟨xs, _, _, _, _, _, _, rfl, by omega, h4, by omega, hz.le (by omega), by omega, by omega⟩
        · simp! only [c1, c2, c3, List.length_map]
          exact tl ⟨xs, _, _, _, _, _, _, rfl, h3, h4, h5, h6, by omega, by omega⟩
      · simp! only [c1, c2]
        exact tl ⟨xs, _, _, _, _, _, _, rfl, h3, h4, h5, h6, by omega, by omega⟩
    · simp! only [c1]
      exact tl ⟨xs, _, _, _, _, _, _, rfl, h3, h4, h5, h6, by omega, by omega⟩
end
end RX

/-! G9: drawn numbers and fractions. -/
namespace RX
open PySem
local macro_rules
  | `(tactic| decreasing_trivial) => `(tactic| (with_reducible apply Sm.mono; (repeat (first | with_reducible assumption | with_reducible exact Sm.self (OfNat.ofNat _) | with_reducible exact num_bd (by assumption) | with_reducible exact den_bd (by assumption) | with_reducible apply Sm.mul | with_reducible apply Sm.add' | with_reducible apply Sm.sub' | with_reducible apply Sm.neg | (with_reducible apply Sm.fmod (by decide)))); decide))
local macro_rules
  | `(tactic| simp! only [$ls,*]) => `(tactic| simp (disch := first | with_reducible assumption | decreasing_trivial | with_reducible exact pure_frD _ | omega) only [ev_cons, seqK_next, seqK_ret, seqK_cnt, seqK_brk, ev_retN, ev_brk, ev_cnt, ev_pass, ev_nil, bind_ok, bind_ex, bind_bad, wp_ok, wp_ex, wp_bad, cwp_ok, cwp_ex, cwp_bad, cwp_ends, flK_ret, flK_next, fin_eq', fin_same, fin_c1, exK_c1, ends_ex1, exK_eq', exK_same, forL_nil, forK_next, forK_cnt, forK_brk, forK_ret, ct_call, ct_lcall, ct_ask, lift_ok, lift_ex, liftN_ok, ends_ret, ends_next, ends_ex, List.getElem?_cons_zero, List.getElem?_cons_succ, List.getElem?_nil, List.set_cons_zero, List.set_cons_succ, List.map_cons, List.map_nil, List.length_cons, List.length_nil, List.cons_append, List.nil_append, List.replicate_succ, List.replicate_zero, Bool.not_true, Bool.not_false, Bool.false_eq_true, if_true, if_false, reduceIte, decide_true, decide_false, decide_eq_true_eq, Bool.true_or, Bool.false_or, Bool.or_true, Bool.or_false, Bool.true_and, Bool.false_and, Bool.and_true, Bool.and_false, Option.map_some, Option.map_none, Option.bind_some, Option.bind_none, Option.getD_some, Option.getD_none, ite_true, ite_false, Nat.sub_self, Nat.reduceSub, Nat.reduceAdd, Nat.reduceMul, Int.reduceAdd, Int.reduceSub, Int.reduceMul, Int.reduceNeg, Int.reduceLT, Int.reduceLE, Int.reduceEq, Int.reduceNe, Int.reduceToNat, Int.reducePow, String.reduceEq, eq_self, ne_eq, not_true_eq_false, not_false_eq_true, Rat.zero_num, Rat.zero_den, Int.cast_ofNat_Int, q_dr_non, q_dr_bl, q_dr_int, q_dr_str, q_dr_tup, q_dr_lst, q_dr_frz, q_dr_dic, q_dr_obj, q_dr_ref, q_dr_fn, q_dr_exc, q_opt_some, q_opt_none, q_tr, q_truth_non, q_truth_bl, q_truth_int, q_truth_str, q_truth_tup, q_truth_lst, q_truth_dic, q_cmp_Lt, q_cmp_LtE, q_cmp_Gt, q_cmp_GtE, q_cmp_Eq, q_cmp_Ne, q_eq_int, q_eq_str, q_eq_bl, q_Is_nn, q_Is_bb, q_Is_bl, q_Is_int, q_Is_str, q_Is_tup, q_Is_lst, q_Is_frz, q_Is_dic, q_Is_obj, q_Is_ref, q_Is_fn, q_IsNot_nn, q_IsNot_bb, q_IsNot_bl, q_IsNot_int, q_IsNot_str, q_IsNot_tup, q_IsNot_lst, q_IsNot_frz, q_IsNot_dic, q_IsNot_obj, q_IsNot_ref, q_IsNot_fn, q_bin_Add, q_bin_Sub, q_bin_Mult, q_bin_FloorDiv, q_bin_Mod, q_bin_Pow, q_bin_Adds, q_bin_Addl, q_b1_len_str, q_b1_len_lst, q_b1_len_frz, q_b1_len_tup, q_b1_abs_int, q_b1_int_int, q_b1_int_bl, q_b1_bool_int, q_b1_bool_bl, q_b1_list_lst, q_b1_list_frz, q_b1_list_tup, q_b1_list_dic, q_b1_lvals_dic, q_b1_tuple_lst, q_b1_tuple_tup, q_b1_bitlen_int, q_b1_upper_str, q_b1_rev_lst, q_b1_all_lst, q_b1_any_lst, q_b1_sum_lst, q_b2_min, q_b2_max, q_b2_join, q_b2_divmod, q_item_lst, q_item_tup, q_item_str, q_item_dici, q_item_dics, q_set_lst, q_set_dic, q_key_i, q_key_s, q_items_lst, q_items_frz, q_items_tup, q_isi_cl_int, q_isi_cl_bl, q_isi_cl_str, q_isi_cl_tup, q_isi_cl_lst, q_isi_cl_dic, q_isi_cl_non, q_isi_ty_int, q_isi_ty_bl, q_isi_ty_str, q_isi_ty_tup, q_isi_ty_lst, q_isi_ty_dic, q_isi_ty_non, q_isi_exc, q_isi_excv, q_isis_1, q_isis_2, q_isl_0, q_isl_1, q_orO, q_plain_int, q_plain_bl, q_plain_str, q_plain_tup, q_plain_lst, q_plain_dic, q_plain_non, q_rdB, q_rdS, q_rdBo_val, q_rdBo_own, q_rdBo_len, q_rdSo_val, q_rdSo_own, q_setSl, q_setT1, q_setT2, q_setSls0, q_setSls1, q_mod1, q_mod2, q_modS, q_modSo_own, q_modSo_ref, q_isL, q_isLo_own, q_isLo_ref, q_isLl, q_app, q_asgSl_lst, q_asgSl_dic, q_asgSlf_non, q_asgSlf_bl, q_asgSlf_int, q_asgSlf_str, q_asgSlf_tup, q_asgSlf_lst, q_asgSlf_frz, q_asgSlf_dic, q_asgSlf_obj, q_asgSlf_ref, q_asgSlf_fn, q_asgSlf_exc, q_asgSlt_int, q_asgSlt_str, q_asgSlt_bl, q_asgSlt_non, q_asgSlt_tup, q_asgSlt_obj, q_asgSlt_ref, q_isSeq_l, q_isSeq_d, q_frK, q_frE_nm, q_frE_bor, q_frE_kI, q_frE_kS, q_frE_kB, q_frE_kN, q_frE_glo, q_frE_neg, q_frE_not, q_frE_and, q_frE_or, q_frE_cmp, q_frE_cmp2, q_frE_ife, q_frE_callv, q_frE_ask, q_frE_bb, q_frE_isi, q_frE_ix, q_frE_tupD, q_frE_attr, q_frE_nope, q_frE_lstD, q_frE_comp, q_frE_slc, q_frE_dicD, q_frE_list, q_frE_lvals, q_frE_rev, q_frE_add, q_frE_Sub, q_frE_Mult, q_frE_FloorDiv, q_frE_Mod, q_frE_Pow, q_frE_b_len, q_frE_b_abs, q_frE_b_int, q_frE_b_tuple, q_frE_b_bitlen, q_frE_b_upper, q_frE_b_all, q_frE_b_any, q_frE_b_sum, q_frE_b_bool, q_liftP_ok, q_liftP_ex, q_frcK, q_frE_call, q_wlP, q_wlX, q_wlQ, q_wp_liftP, q_wp_lift, q_wp_liftN, q_wpK, q_wp_bind, q_lamP, q_lamX, q_cwp_lam, q_frR_nm, q_frRo_own, q_frRo_val, q_frR_bor, q_frR_kI, q_frR_kS, q_frR_kB, q_frR_kN, q_frR_glo, q_frR_neg, q_frR_not, q_frR_and, q_frR_or, q_frR_cmp, q_frR_cmp2, q_frR_ife, q_frR_callv, q_frR_ask, q_frR_bb, q_frR_isi, q_frR_ix, q_frR_tupD, q_frR_attr, q_frR_nope, q_frR_lstD, q_frR_comp, q_frR_slc, q_frR_dicD, q_frR_bu, q_frR_bin, q_frR_call, q_pairs0, q_pairs2, q_pairO, q_mkDic0, q_mkDic1, q_ixl0, q_ixl1, q_ixl2, q_ixl3, q_ixl4, q_ixl5, q_ixl6, q_ixl7, q_ixl8, q_ixl9, q_ixl10, q_ixl11, q_ixl12, q_ixm1, q_ixm2, e_nm, e_bor, e_kI, e_kS, e_kB, e_kN, e_glo, e_nope, k_binK2, k_binK1, e_bin, q_negO, k_negK, e_neg, k_notK2, k_notK1, e_not, k_blK, k_cmpK2, k_cmpK1, e_cmp, k_c2K3, k_c2K2, k_c2K1, e_cmp2, k_ifeK2, k_ifeK1, e_ife, k_callK, e_call, k_cvK, e_callv, k_askT, e_ask, k_buK, e_bu, k_bbK2, k_bbK1, e_bb, k_isiK, e_isi, k_ixK2, k_ixK1, e_ix, q_slcO_l, q_slcO_s, k_slcK3, k_slcK2, k_slcK1, e_slc, k_tupK, e_tupD, k_lstK, e_lstD, k_dicK2, k_dicK, e_dicD, k_someK, k_compK2, k_compF, k_compK3, k_compK1, e_comp, q_attrO, k_attrK, e_attr, e_es0, k_esK2, k_esK1, e_es1, e_and, e_or, e_a1, k_aK2, k_aK1, e_a2, e_o1, k_oK2, k_oK1, e_o2, k_itvK, e_itv, q_rng1O, q_rng1N, k_rng1K, e_rng1, q_rng2O, k_rng2K2, k_rng2K1, e_rng2, e_o_hole, q_intO, k_evOK, e_o_one, e_c_hole, e_c_one, k_asgK, s_asg, k_ownK, s_own, k_newK, s_new, k_asgTK, s_asgT, k_parK2, k_parK1, s_par, k_setF, k_sixK3, k_sixK2, k_sixK1, s_setIx, k_appK, s_app, k_exprK, s_expr, k_iteK2, k_iteK1, s_ite, k_forB2, k_forB, k_forK0, s_for, k_retK, s_ret, q_raisO, k_raisK, s_rais, item_fr0, item_fr1, dr_fr, setT_fr, isi_fr, isic_fr, plain_fr, len_fr, is_fr, isn_fr, zip1, st_get0, st_set0, st_get1, st_set1, st_get2, st_set2, st_get3, st_set3, st_get4, st_set4, st_get5, st_set5, st_get6, st_set6, $ls,*])
/-- what a drawing def gives -/
def DrawQ (N : Nat) (r : List D) (P : D → Prop) (d : D) (fr : Bool) (cs : List D) : Prop := ∃ s', cs = s' :: r ∧ St N s' ∧ P d
def FrD (n : Nat) (d : D) : Prop := ∃ x, d = frD x ∧ Sz n x
theorem FrD.lit {n : Nat} {p q : Int} (h : decide (1 ≤ q ∧ Int.gcd p q = 1 ∧ p.natAbs < 2 ^ n ∧ q.natAbs < 2 ^ n) = true) : FrD n (.tup [.int p, .int q]) := by
  obtain ⟨h1, h2, h3, h4⟩ := of_decide_eq_true h
  obtain ⟨x, e⟩ := isFr_ex (d := .tup [.int p, .int q]) (by simp [isFr, h1, h2])
  refine ⟨x, e, ?_⟩
  unfold frD at e
  injection e with e
  injection e with e1 e
  injection e with e2 e
  injection e1 with e1
  injection e2 with e2
  exact ⟨by rw [← e1]; exact ⟨h3⟩, by rw [← e2]; exact ⟨h4⟩⟩
theorem FrD.mono {n m : Nat} {d : D} (h : FrD n d) (hm : n ≤ m) : FrD m d := by
  obtain ⟨x, e, h⟩ := h
  exact ⟨x, e, h.mono hm⟩
theorem five {v : Int} (h0 : 0 ≤ v) (h : v < 5) : v = 0 ∨ v = 1 ∨ v = 2 ∨ v = 3 ∨ v = 4 := by omega
theorem four {v : Int} (h0 : 0 ≤ v) (h : v < 4) : v = 0 ∨ v = 1 ∨ v = 2 ∨ v = 3 := by omega
section
variable {t : Tx} {k : Nat} {cs : List D}
theorem ev_llow [Has t "_law_gcd" b_law_gcd] [Has t "_law_lowest" b_law_lowest] (hk : 4 ≤ k) {p q : Int} (hs : Sm 9000 q) : callN t k "_law_lowest" [.int p, .int q] cs = .ok (frD (Rat.divInt p q)) false cs := by
  rw [call_has (d := b_law_lowest) (by omega) rfl rfl]
  by_cases h0 : q = 0
  · subst h0
    simp! only [b_law_lowest, Rat.divInt_zero]
    rfl
  · by_cases hn : q < 0
    · have h1 := low_num (-p) (-q) (by omega)
      have h2 := low_den (-p) (-q) (by omega)
      rw [if_neg (by omega), Rat.neg_divInt_neg] at h1 h2
      have g0 := gcd_ne (p := -p) (q := -q) (by omega)
      have gs := gcd_sm (p := -p) (q := -q) (by omega) hs.neg
      simp! only [b_law_lowest, h0, hn, ev_lgcd, divM, h1, h2]
      rfl
    · have h1 := low_num p q (by omega)
      have h2 := low_den p q (by omega)
      rw [if_neg (by omega)] at h1 h2
      have g0 := gcd_ne (p := p) (q := q) (by omega)
      have gs := gcd_sm (p := p) (q := q) (by omega) hs
      simp! only [b_law_lowest, h0, hn, ev_lgcd, divM, h1, h2]
      rfl
theorem whole_wp [Has t "_law_mixed" b_law_mixed] [Has t "_law_take" b_law_take] [Has t "_law_whole" b_law_whole] (hk : 5 ≤ k) {N : Nat} {s : D} {r : List D} (hS : St N s) {m : Int} (h0 : 0 ≤ m) (hm : Sm 8000 m) (hN : N + 2 < 1000000000) :
    (callN t k "_law_whole" [.ref 0, .int m] (s :: r)).wp (DrawQ (N + 2) r fun d => ∃ v, d = .int v ∧ v.natAbs ≤ m) nox := by
  rw [call_has (d := b_law_whole) (by omega) rfl rfl]
  simp! only [b_law_whole]
  refine cwp_mono (take_wp (by omega) (by assumption) (by decreasing_trivial) (by omega)) ?_ (fun _ _ _ h => h.elim); rintro _ _ _ ⟨v, s_v, rfl, rfl, rfl, hS_v, v0, v1⟩; replace v1 := v1 (by omega)
  by_cases h5 : v < 5
  · simp! only [h5]
    rcases five v0 h5 with rfl | rfl | rfl | rfl | rfl
    all_goals
      simp! only [ixOf]
      refine ⟨_, rfl, St.mono (by assumption) (by omega), _, rfl, ?_⟩
      first | omega | (split <;> omega)
  · simp! only [h5, mulM]
    refine cwp_mono (take_wp (by omega) (by assumption) (by decreasing_trivial) (by omega)) ?_ (fun _ _ _ h => h.elim); rintro _ _ _ ⟨u, s_u, rfl, rfl, rfl, hS_u, u0, u1⟩; replace u1 := u1 (by omega)
    simp! only []
    exact ⟨_, rfl, St.mono (by assumption) (by omega), _, rfl, by omega⟩
theorem Sm.nat {n m : Nat} (h : m < 2 ^ n) : Sm n (m : Int) := by
  rw [Sm_iff, Int.natAbs_natCast]
  exact h
theorem pick_wp [Has t "_law_mixed" b_law_mixed] [Has t "_law_take" b_law_take] [Has t "_law_pick" b_law_pick] (hk : 5 ≤ k) {N : Nat} {s : D} {r : List D} (hS : St N s) {xs : List D} (hx : xs ≠ []) (hl : xs.length < 16777216) (hN : N + 1 < 1000000000) :
    (callN t k "_law_pick" [.ref 0, .lst xs] (s :: r)).wp (DrawQ (N + 1) r fun d => d ∈ xs) nox := by
  rw [call_has (d := b_law_pick) (by omega) rfl rfl]
  have h0 : 0 < xs.length := List.length_pos_iff.mpr hx
  have h1 : Sm 24 (xs.length : Int) := Sm.nat hl
  simp! only [b_law_pick]
  refine cwp_mono (take_wp (by omega) (by assumption) (by decreasing_trivial) (by omega)) ?_ (fun _ _ _ h => h.elim); rintro _ _ _ ⟨v, s_v, rfl, rfl, rfl, hS_v, v0, v1⟩; replace v1 := v1 (by omega)
  have h2 : v.toNat < xs.length := by omega
  simp! only [q_ix_nn v0 v1, List.getElem?_eq_getElem h2]
  exact ⟨_, rfl, St.mono (by assumption) (by omega), List.getElem_mem h2⟩
def greatI (v : Int) (sz : D) (r : List D) (l : List D) (w : W) : Prop := ∃ u s3, w = ⟨[.val (.ref 0), .val (.int v), .val (.int u), s3], sz :: r⟩ ∧ 0 ≤ u ∧ u < 10 ^ 40
theorem great_wp [Has t "_law_mixed" b_law_mixed] [Has t "_law_take" b_law_take] [Has t "_law_great" b_law_great] (hk : 5 ≤ k) {N : Nat} {s : D} {r : List D} (hS : St N s) (hN : N + 3 < 1000000000) :
    (callN t k "_law_great" [.ref 0] (s :: r)).wp (DrawQ (N + 3) r fun d => ∃ v, d = .int v ∧ v.natAbs < 10 ^ 40) nox := by
  rw [call_has (d := b_law_great) (by omega) rfl rfl]
  have p0 : powOk 10 40 = true := by decide
  have p1 : powOk 10 18 = true := by decide
  simp! only [b_law_great]
  refine cwp_mono (take_wp (by omega) (by assumption) (by decreasing_trivial) (by omega)) ?_ (fun _ _ _ h => h.elim); rintro _ _ _ ⟨v, s_v, rfl, rfl, rfl, hS_v, v0, v1⟩; replace v1 := v1 (by omega)
  by_cases h5 : v < 4
  · simp! only [h5, p0, p1]
    rcases four v0 h5 with rfl | rfl | rfl | rfl
    all_goals
      simp! only [ixOf]
      exact ⟨_, rfl, St.mono (by assumption) (by omega), _, rfl, by decide⟩
  · simp! only [h5, p0]
    refine cwp_mono (take_wp (by omega) (by assumption) (by decreasing_trivial) (by omega)) ?_ (fun _ _ _ h => h.elim); rintro _ _ _ ⟨u, s_u, rfl, rfl, rfl, hS_u, u0, u1⟩; replace u1 := u1 (by omega)
    simp! only []
    refine cwp_mono (take_wp (by omega) (by assumption) (by decreasing_trivial) (by omega)) ?_ (fun _ _ _ h => h.elim); rintro _ _ _ ⟨z, s_z, rfl, rfl, rfl, hS_z, z0, z1⟩; replace z1 := z1 (by omega)
    have rz : rngOk z = true := by
      unfold rngOk
      simp
      omega
    simp! only [rz]
    refine forL_wp (greatI v s_z r) ?_ ?_ _ _ ⟨u, _, rfl, u0, u1⟩
    · rintro x l w ⟨u, s3, rfl, u0, u1⟩
      simp! only [divM]
      refine ⟨_, _, rfl, ?_, ?_⟩
      · rw [Int.fdiv_eq_ediv_of_nonneg _ (by decide)]
        omega
      · rw [Int.fdiv_eq_ediv_of_nonneg _ (by decide)]
        omega
    · rintro w ⟨u, s3, rfl, u0, u1⟩
      by_cases hv : v.fmod 2 = 1
      · simp! only [hv]
        exact ⟨_, rfl, St.mono (by assumption) (by omega), _, rfl, by omega⟩
      · simp! only [hv]
        exact ⟨_, rfl, St.mono (by assumption) (by omega), _, rfl, by omega⟩
theorem frac_wp [Has t "_law_mixed" b_law_mixed] [Has t "_law_take" b_law_take] [Has t "_law_gcd" b_law_gcd] [Has t "_law_lowest" b_law_lowest] [Has t "_law_frac" b_law_frac] (hk : 5 ≤ k) {N : Nat} {s : D} {r : List D} (hS : St N s) (hN : N + 3 < 1000000000) :
    (callN t k "_law_frac" [.ref 0] (s :: r)).wp (DrawQ (N + 3) r (FrD 20)) nox := by
  rw [call_has (d := b_law_frac) (by omega) rfl rfl]
  simp! only [b_law_frac]
  refine cwp_mono (take_wp (by omega) (by assumption) (by decreasing_trivial) (by omega)) ?_ (fun _ _ _ h => h.elim); rintro _ _ _ ⟨v, s_v, rfl, rfl, rfl, hS_v, v0, v1⟩; replace v1 := v1 (by omega)
  by_cases h5 : v < 5
  · simp! only [h5]
    rcases five v0 h5 with rfl | rfl | rfl | rfl | rfl
    all_goals
      simp! only [ixOf]
      exact ⟨_, rfl, St.mono (by assumption) (by omega), FrD.lit (by decide)⟩
  · simp! only [h5]
    refine cwp_mono (take_wp (by omega) (by assumption) (by decreasing_trivial) (by omega)) ?_ (fun _ _ _ h => h.elim); rintro _ _ _ ⟨u, s_u, rfl, rfl, rfl, hS_u, u0, u1⟩; replace u1 := u1 (by omega)
    have su : Sm 10 u := Sm.of_lt u0 (by omega)
    simp! only [mulM]
    refine cwp_mono (take_wp (by omega) (by assumption) (by decreasing_trivial) (by omega)) ?_ (fun _ _ _ h => h.elim); rintro _ _ _ ⟨z, s_z, rfl, rfl, rfl, hS_z, z0, z1⟩; replace z1 := z1 (by omega)
    have sz : Sm 10 z := Sm.of_lt z0 (by omega)
    simp! only [mulM, ev_llow]
    exact ⟨_, rfl, St.mono (by assumption) (by omega), _, rfl, .divInt (by decreasing_trivial) (by decreasing_trivial) (by omega)⟩
theorem frac_wide_wp [Has t "_law_mixed" b_law_mixed] [Has t "_law_take" b_law_take] [Has t "_law_gcd" b_law_gcd] [Has t "_law_lowest" b_law_lowest] [Has t "_law_frac" b_law_frac] [Has t "_law_great" b_law_great] [Has t "_law_whole" b_law_whole] [Has t "_law_frac_wide" b_law_frac_wide] (hk : 6 ≤ k) {N : Nat} {s : D} {r : List D} (hS : St N s) (hN : N + 7 < 1000000000) :
    (callN t k "_law_frac_wide" [.ref 0] (s :: r)).wp (DrawQ (N + 7) r (FrD 140)) nox := by
  rw [call_has (d := b_law_frac_wide) (by omega) rfl rfl]
  have p0 : powOk 10 6 = true := by decide
  simp! only [b_law_frac_wide]
  refine cwp_mono (take_wp (by omega) (by assumption) (by decreasing_trivial) (by omega)) ?_ (fun _ _ _ h => h.elim); rintro _ _ _ ⟨v, s_v, rfl, rfl, rfl, hS_v, v0, v1⟩; replace v1 := v1 (by omega)
  by_cases h0 : v = 0
  · simp! only [h0]
    refine cwp_mono (great_wp (by omega) (by assumption) (by omega)) ?_ (fun _ _ _ h => h.elim); rintro dd _ _ ⟨_, rfl, _, a, rfl, ha⟩
    simp! only []
    refine cwp_mono (great_wp (by omega) (by assumption) (by omega)) ?_ (fun _ _ _ h => h.elim); rintro dd _ _ ⟨_, rfl, _, b, rfl, hb⟩
    have sa : Sm 133 a := ⟨Nat.lt_of_lt_of_le ha (by decide)⟩
    have sb : Sm 133 b := ⟨Nat.lt_of_lt_of_le hb (by decide)⟩
    have e : (if (b.natAbs : Int) > 1 then (b.natAbs : Int) else 1) = max 1 (b.natAbs : Int) := by split <;> omega
    have sm : Sm 133 (max 1 (b.natAbs : Int)) := by
      rw [Sm_iff] at sb ⊢
      omega
    simp! only [abs_if, e, ev_llow]
    exact ⟨_, rfl, St.mono (by assumption) (by omega), _, rfl, .divInt (by decreasing_trivial) (by decreasing_trivial) (by omega)⟩
  · by_cases h1 : v = 1
    · simp! only [h1, p0]
      refine cwp_mono (whole_wp (by omega) (by assumption) (by omega) (by decreasing_trivial) (by omega)) ?_ (fun _ _ _ h => h.elim); rintro dd _ _ ⟨_, rfl, _, a, rfl, ha⟩
      have sa : Sm 20 a := by
        rw [Sm_iff]
        omega
      simp! only []
      refine cwp_mono (take_wp (by omega) (by assumption) (by decreasing_trivial) (by omega)) ?_ (fun _ _ _ h => h.elim); rintro _ _ _ ⟨z, s_z, rfl, rfl, rfl, hS_z, z0, z1⟩; replace z1 := z1 (by omega)
      have sz : Sm 20 z := Sm.of_lt z0 (by omega)
      simp! only [ev_llow]
      exact ⟨_, rfl, St.mono (by assumption) (by omega), _, rfl, .divInt (by decreasing_trivial) (by decreasing_trivial) (by omega)⟩
    · simp! only [h0, h1]
      refine cwp_mono (frac_wp (by omega) (by assumption) (by omega)) ?_ (fun _ _ _ h => h.elim); rintro dd _ _ ⟨_, rfl, _, h⟩
      simp! only []
      exact ⟨_, rfl, St.mono (by assumption) (by omega), h.mono (by decide)⟩
end
end RX

/-! GA: wrong fractions; likeness; errors asked for. -/
namespace RX
open PySem
local macro_rules
  | `(tactic| decreasing_trivial) => `(tactic| (with_reducible apply Sm.mono; (repeat (first | with_reducible assumption | with_reducible exact Sm.self (OfNat.ofNat _) | with_reducible exact num_bd (by assumption) | with_reducible exact den_bd (by assumption) | with_reducible apply Sm.mul | with_reducible apply Sm.add' | with_reducible apply Sm.sub' | with_reducible apply Sm.neg | (with_reducible apply Sm.fmod (by decide)))); decide))
local macro_rules
  | `(tactic| simp! only [$ls,*]) => `(tactic| simp (disch := first | with_reducible assumption | decreasing_trivial | with_reducible exact pure_frD _ | omega) only [ev_cons, seqK_next, seqK_ret, seqK_cnt, seqK_brk, ev_retN, ev_brk, ev_cnt, ev_pass, ev_nil, bind_ok, bind_ex, bind_bad, wp_ok, wp_ex, wp_bad, cwp_ok, cwp_ex, cwp_bad, cwp_ends, flK_ret, flK_next, fin_eq', fin_same, fin_c1, exK_c1, ends_ex1, exK_eq', exK_same, forL_nil, forK_next, forK_cnt, forK_brk, forK_ret, ct_call, ct_lcall, ct_ask, lift_ok, lift_ex, liftN_ok, ends_ret, ends_next, ends_ex, List.getElem?_cons_zero, List.getElem?_cons_succ, List.getElem?_nil, List.set_cons_zero, List.set_cons_succ, List.map_cons, List.map_nil, List.length_cons, List.length_nil, List.cons_append, List.nil_append, List.replicate_succ, List.replicate_zero, Bool.not_true, Bool.not_false, Bool.false_eq_true, if_true, if_false, reduceIte, decide_true, decide_false, decide_eq_true_eq, Bool.true_or, Bool.false_or, Bool.or_true, Bool.or_false, Bool.true_and, Bool.false_and, Bool.and_true, Bool.and_false, Option.map_some, Option.map_none, Option.bind_some, Option.bind_none, Option.getD_some, Option.getD_none, ite_true, ite_false, Nat.sub_self, Nat.reduceSub, Nat.reduceAdd, Nat.reduceMul, Int.reduceAdd, Int.reduceSub, Int.reduceMul, Int.reduceNeg, Int.reduceLT, Int.reduceLE, Int.reduceEq, Int.reduceNe, Int.reduceToNat, Int.reducePow, String.reduceEq, eq_self, ne_eq, not_true_eq_false, not_false_eq_true, Rat.zero_num, Rat.zero_den, Int.cast_ofNat_Int, q_dr_non, q_dr_bl, q_dr_int, q_dr_str, q_dr_tup, q_dr_lst, q_dr_frz, q_dr_dic, q_dr_obj, q_dr_ref, q_dr_fn, q_dr_exc, q_opt_some, q_opt_none, q_tr, q_truth_non, q_truth_bl, q_truth_int, q_truth_str, q_truth_tup, q_truth_lst, q_truth_dic, q_cmp_Lt, q_cmp_LtE, q_cmp_Gt, q_cmp_GtE, q_cmp_Eq, q_cmp_Ne, q_eq_int, q_eq_str, q_eq_bl, q_Is_nn, q_Is_bb, q_Is_bl, q_Is_int, q_Is_str, q_Is_tup, q_Is_lst, q_Is_frz, q_Is_dic, q_Is_obj, q_Is_ref, q_Is_fn, q_IsNot_nn, q_IsNot_bb, q_IsNot_bl, q_IsNot_int, q_IsNot_str, q_IsNot_tup, q_IsNot_lst, q_IsNot_frz, q_IsNot_dic, q_IsNot_obj, q_IsNot_ref, q_IsNot_fn, q_bin_Add, q_bin_Sub, q_bin_Mult, q_bin_FloorDiv, q_bin_Mod, q_bin_Pow, q_bin_Adds, q_bin_Addl, q_b1_len_str, q_b1_len_lst, q_b1_len_frz, q_b1_len_tup, q_b1_abs_int, q_b1_int_int, q_b1_int_bl, q_b1_bool_int, q_b1_bool_bl, q_b1_list_lst, q_b1_list_frz, q_b1_list_tup, q_b1_list_dic, q_b1_lvals_dic, q_b1_tuple_lst, q_b1_tuple_tup, q_b1_bitlen_int, q_b1_upper_str, q_b1_rev_lst, q_b1_all_lst, q_b1_any_lst, q_b1_sum_lst, q_b2_min, q_b2_max, q_b2_join, q_b2_divmod, q_item_lst, q_item_tup, q_item_str, q_item_dici, q_item_dics, q_set_lst, q_set_dic, q_key_i, q_key_s, q_items_lst, q_items_frz, q_items_tup, q_isi_cl_int, q_isi_cl_bl, q_isi_cl_str, q_isi_cl_tup, q_isi_cl_lst, q_isi_cl_dic, q_isi_cl_non, q_isi_ty_int, q_isi_ty_bl, q_isi_ty_str, q_isi_ty_tup, q_isi_ty_lst, q_isi_ty_dic, q_isi_ty_non, q_isi_exc, q_isi_excv, q_isis_1, q_isis_2, q_isl_0, q_isl_1, q_orO, q_plain_int, q_plain_bl, q_plain_str, q_plain_tup, q_plain_lst, q_plain_dic, q_plain_non, q_rdB, q_rdS, q_rdBo_val, q_rdBo_own, q_rdBo_len, q_rdSo_val, q_rdSo_own, q_setSl, q_setT1, q_setT2, q_setSls0, q_setSls1, q_mod1, q_mod2, q_modS, q_modSo_own, q_modSo_ref, q_isL, q_isLo_own, q_isLo_ref, q_isLl, q_app, q_asgSl_lst, q_asgSl_dic, q_asgSlf_non, q_asgSlf_bl, q_asgSlf_int, q_asgSlf_str, q_asgSlf_tup, q_asgSlf_lst, q_asgSlf_frz, q_asgSlf_dic, q_asgSlf_obj, q_asgSlf_ref, q_asgSlf_fn, q_asgSlf_exc, q_asgSlt_int, q_asgSlt_str, q_asgSlt_bl, q_asgSlt_non, q_asgSlt_tup, q_asgSlt_obj, q_asgSlt_ref, q_isSeq_l, q_isSeq_d, q_frK, q_frE_nm, q_frE_bor, q_frE_kI, q_frE_kS, q_frE_kB, q_frE_kN, q_frE_glo, q_frE_neg, q_frE_not, q_frE_and, q_frE_or, q_frE_cmp, q_frE_cmp2, q_frE_ife, q_frE_callv, q_frE_ask, q_frE_bb, q_frE_isi, q_frE_ix, q_frE_tupD, q_frE_attr, q_frE_nope, q_frE_lstD, q_frE_comp, q_frE_slc, q_frE_dicD, q_frE_list, q_frE_lvals, q_frE_rev, q_frE_add, q_frE_Sub, q_frE_Mult, q_frE_FloorDiv, q_frE_Mod, q_frE_Pow, q_frE_b_len, q_frE_b_abs, q_frE_b_int, q_frE_b_tuple, q_frE_b_bitlen, q_frE_b_upper, q_frE_b_all, q_frE_b_any, q_frE_b_sum, q_frE_b_bool, q_liftP_ok, q_liftP_ex, q_frcK, q_frE_call, q_wlP, q_wlX, q_wlQ, q_wp_liftP, q_wp_lift, q_wp_liftN, q_wpK, q_wp_bind, q_lamP, q_lamX, q_cwp_lam, q_frR_nm, q_frRo_own, q_frRo_val, q_frR_bor, q_frR_kI, q_frR_kS, q_frR_kB, q_frR_kN, q_frR_glo, q_frR_neg, q_frR_not, q_frR_and, q_frR_or, q_frR_cmp, q_frR_cmp2, q_frR_ife, q_frR_callv, q_frR_ask, q_frR_bb, q_frR_isi, q_frR_ix, q_frR_tupD, q_frR_attr, q_frR_nope, q_frR_lstD, q_frR_comp, q_frR_slc, q_frR_dicD, q_frR_bu, q_frR_bin, q_frR_call, q_pairs0, q_pairs2, q_pairO, q_mkDic0, q_mkDic1, q_ixl0, q_ixl1, q_ixl2, q_ixl3, q_ixl4, q_ixl5, q_ixl6, q_ixl7, q_ixl8, q_ixl9, q_ixl10, q_ixl11, q_ixl12, q_ixm1, q_ixm2, e_nm, e_bor, e_kI, e_kS, e_kB, e_kN, e_glo, e_nope, k_binK2, k_binK1, e_bin, q_negO, k_negK, e_neg, k_notK2, k_notK1, e_not, k_blK, k_cmpK2, k_cmpK1, e_cmp, k_c2K3, k_c2K2, k_c2K1, e_cmp2, k_ifeK2, k_ifeK1, e_ife, k_callK, e_call, k_cvK, e_callv, k_askT, e_ask, k_buK, e_bu, k_bbK2, k_bbK1, e_bb, k_isiK, e_isi, k_ixK2, k_ixK1, e_ix, q_slcO_l, q_slcO_s, k_slcK3, k_slcK2, k_slcK1, e_slc, k_tupK, e_tupD, k_lstK, e_lstD, k_dicK2, k_dicK, e_dicD, k_someK, k_compK2, k_compF, k_compK3, k_compK1, e_comp, q_attrO, k_attrK, e_attr, e_es0, k_esK2, k_esK1, e_es1, e_and, e_or, e_a1, k_aK2, k_aK1, e_a2, e_o1, k_oK2, k_oK1, e_o2, k_itvK, e_itv, q_rng1O, q_rng1N, k_rng1K, e_rng1, q_rng2O, k_rng2K2, k_rng2K1, e_rng2, e_o_hole, q_intO, k_evOK, e_o_one, e_c_hole, e_c_one, k_asgK, s_asg, k_ownK, s_own, k_newK, s_new, k_asgTK, s_asgT, k_parK2, k_parK1, s_par, k_setF, k_sixK3, k_sixK2, k_sixK1, s_setIx, k_appK, s_app, k_exprK, s_expr, k_iteK2, k_iteK1, s_ite, k_forB2, k_forB, k_forK0, s_for, k_retK, s_ret, q_raisO, k_raisK, s_rais, item_fr0, item_fr1, dr_fr, setT_fr, isi_fr, isic_fr, plain_fr, len_fr, is_fr, isn_fr, zip1, st_get0, st_set0, st_get1, st_set1, st_get2, st_set2, st_get3, st_set3, st_get4, st_set4, st_get5, st_set5, st_get6, st_set6, $ls,*])
section
variable {t : Tx} {k : Nat} {cs : List D}
def BadFr (d : D) : Prop := pureD d = true ∧ isFr d = false
theorem bad_mul {x : Rat} {m : Int} (h : 2 ≤ m) : isFr (.tup [.int (x.num * m), .int (x.den * m)]) = false := by
  unfold isFr
  have : Int.gcd (x.num * m) (x.den * m) ≠ 1 := by
    rw [Int.gcd_mul_right]
    intro h1
    have := Nat.eq_one_of_mul_eq_one_left h1
    omega
  simp [this]
theorem bad_neg {x : Rat} : isFr (.tup [.int (-x.num), .int (-x.den)]) = false := by
  unfold isFr
  have := den_pos x
  have h : ¬ (1 ≤ -(x.den : Int)) := by omega
  simp [h]
theorem bad_wp [Has t "_law_mixed" b_law_mixed] [Has t "_law_take" b_law_take] [Has t "_law_gcd" b_law_gcd] [Has t "_law_lowest" b_law_lowest] [Has t "_law_frac" b_law_frac] [Has t "_law_pick" b_law_pick] [Has t "_law_bad_frac" b_law_bad_frac] (hk : 6 ≤ k) {N : Nat} {s : D} {r : List D} (hS : St N s) (hN : N + 6 < 1000000000) :
    (callN t k "_law_bad_frac" [.ref 0] (s :: r)).wp (DrawQ (N + 6) r BadFr) nox := by
  rw [call_has (d := b_law_bad_frac) (by omega) rfl rfl]
  simp! only [b_law_bad_frac]
  refine cwp_mono (take_wp (by omega) (by assumption) (by decreasing_trivial) (by omega)) ?_ (fun _ _ _ h => h.elim); rintro _ _ _ ⟨v, s_v, rfl, rfl, rfl, hS_v, v0, v1⟩; replace v1 := v1 (by omega)
  have lo : ∀ n, n ≤ 100 → lineOk n = true := fun n h => by
    unfold lineOk
    exact decide_eq_true (by omega)
  by_cases h0 : v = 0
  · simp! only [h0]
    refine cwp_mono (frac_wp (by omega) (by assumption) (by omega)) ?_ (fun _ _ _ h => h.elim); rintro dd _ _ ⟨_, rfl, _, x, rfl, x1, x2⟩
    simp! only []
    refine cwp_mono (take_wp (by omega) (by assumption) (by decreasing_trivial) (by omega)) ?_ (fun _ _ _ h => h.elim); rintro _ _ _ ⟨u, s_u, rfl, rfl, rfl, hS_u, u0, u1⟩; replace u1 := u1 (by omega)
    have su : Sm 3 u := Sm.of_lt u0 (by omega)
    simp! only [mulM, lo]
    refine cwp_mono (pick_wp (by omega) (by assumption) (by simp) (by simp) (by omega)) ?_ (fun _ _ _ h => h.elim); rintro dd _ _ ⟨_, rfl, _, hd⟩
    simp! only []
    refine ⟨_, rfl, St.mono (by assumption) (by omega), ?_⟩
    simp only [List.mem_cons, List.not_mem_nil, or_false] at hd
    unfold BadFr
    rcases hd with rfl | rfl | rfl | rfl | rfl | rfl | rfl
    · exact ⟨by simp [pureD, pureDs], rfl⟩
    · exact ⟨by simp [pureD, pureDs], bad_mul (by omega)⟩
    · exact ⟨by simp [pureD, pureDs], bad_neg⟩
    · exact ⟨by simp [pureD, pureDs], rfl⟩
    · exact ⟨by simp [pureD, pureDs], rfl⟩
    · exact ⟨by simp [pureD, pureDs, pure_frD], rfl⟩
    · exact ⟨by simp [pureD, pureDs], rfl⟩
  · simp! only [h0]
    simp! only [lo]
    refine cwp_mono (pick_wp (by omega) (by assumption) (by simp) (by simp) (by omega)) ?_ (fun _ _ _ h => h.elim); rintro dd _ _ ⟨_, rfl, _, hd⟩
    simp! only []
    refine ⟨_, rfl, St.mono (by assumption) (by omega), ?_⟩
    revert hd
    generalize hL : ([_, _, _, _, _, _, _, _, _, _, _, _, _, _, _, _, _, _, _, _, _, _, _, _, _] : List D) = L
    intro hd
    have ha : (L.all fun d => pureD d && !isFr d) = true := by
      subst hL
      decide +kernel
    have := List.all_eq_true.mp ha _ hd
    simp only [Bool.and_eq_true, Bool.not_eq_true'] at this
    exact this
/-! loops over ranges and lists -/
/-- a turn's end -/
def stepQ (I : Nat → W → Prop) (Q : Flow → W → Prop) (i : Nat) (fl : Flow) (w : W) : Prop := match fl with
  | .next => I (i + 1) w
  | .cnt => I (i + 1) w
  | .brk => Q .next w
  | .ret d b => Q (.ret d b) w
theorem sq_next {I : Nat → W → Prop} {Q : Flow → W → Prop} {i : Nat} {w : W} : stepQ I Q i .next w = I (i + 1) w := rfl
theorem sq_cnt {I : Nat → W → Prop} {Q : Flow → W → Prop} {i : Nat} {w : W} : stepQ I Q i .cnt w = I (i + 1) w := rfl
theorem sq_brk {I : Nat → W → Prop} {Q : Flow → W → Prop} {i : Nat} {w : W} : stepQ I Q i .brk w = Q .next w := rfl
theorem sq_ret {I : Nat → W → Prop} {Q : Flow → W → Prop} {i : Nat} {d : D} {b : Bool} {w : W} : stepQ I Q i (.ret d b) w = Q (.ret d b) w := rfl
theorem for_list {f : D → W → R Flow} {Q : Flow → W → Prop} {X : String → List (String × D) → W → Prop} (I : Nat → W → Prop) {xs : List D}
    (step : ∀ (i : Nat) (x : D) (w : W), xs[i]? = some x → I i w → (f x w).wp (stepQ I Q i) X) (fin : ∀ w, I xs.length w → Q .next w) (w : W) (h0 : I 0 w) : (forL f xs w).wp Q X := by
  refine forL_wp (fun l w => ∃ i, l = xs.drop i ∧ i ≤ xs.length ∧ I i w) ?_ ?_ xs w ⟨0, rfl, by omega, h0⟩
  · rintro x r w ⟨i, e, hi, h⟩
    have hx : xs[i]? = some x := by
      have : (xs.drop i)[0]? = some x := by rw [← e]; rfl
      rw [List.getElem?_drop] at this
      exact this
    have hlt : i < xs.length := by
      rcases Nat.lt_or_ge i xs.length with h | h
      · exact h
      · rw [List.getElem?_eq_none h] at hx
        cases hx
    have er : r = xs.drop (i + 1) := by
      have : xs.drop (i + 1) = (xs.drop i).drop 1 := by rw [List.drop_drop]
      rw [this, ← e]
      rfl
    refine wp_mono (step i x w hx h) (fun fl w1 h1 => ?_) (fun _ _ _ h => h)
    cases fl with
    | next => exact ⟨i + 1, er, hlt, h1⟩
    | cnt => exact ⟨i + 1, er, hlt, h1⟩
    | brk => exact h1
    | ret d b => exact h1
  · rintro w ⟨i, e, hi, h⟩
    have : (xs.drop i).length = 0 := by rw [← e]; rfl
    rw [List.length_drop] at this
    have : i = xs.length := by omega
    subst this
    exact fin w h
theorem rangeD_get {lo : Int} {n i : Nat} : (rangeD lo n)[i]? = if i < n then some (.int (lo + i)) else none := by
  unfold rangeD
  rw [List.getElem?_map]
  split
  · rw [List.getElem?_range (by assumption)]
    rfl
  · rw [List.getElem?_eq_none (by simp; omega)]
    rfl
theorem rangeD_len {lo : Int} {n : Nat} : (rangeD lo n).length = n := by
  unfold rangeD
  simp
theorem for_range {f : D → W → R Flow} {Q : Flow → W → Prop} {X : String → List (String × D) → W → Prop} (I : Nat → W → Prop) {lo : Int} {n : Nat}
    (step : ∀ (i : Nat) (w : W), i < n → I i w → (f (.int (lo + i)) w).wp (stepQ I Q i) X) (fin : ∀ w, I n w → Q .next w) (w : W) (h0 : I 0 w) : (forL f (rangeD lo n) w).wp Q X := by
  refine for_list I (fun i x w hx h => ?_) (by rw [rangeD_len]; exact fin) w h0
  rw [rangeD_get] at hx
  split at hx
  · cases hx
    exact step i w (by assumption) h
  · cases hx
end
end RX

/-! GB: likeness; errors asked for. -/
namespace RX
open PySem
local macro_rules
  | `(tactic| decreasing_trivial) => `(tactic| (with_reducible apply Sm.mono; (repeat (first | with_reducible assumption | with_reducible exact Sm.self (OfNat.ofNat _) | with_reducible exact num_bd (by assumption) | with_reducible exact den_bd (by assumption) | with_reducible apply Sm.mul | with_reducible apply Sm.add' | with_reducible apply Sm.sub' | with_reducible apply Sm.neg | (with_reducible apply Sm.fmod (by decide)))); decide))
local macro_rules
  | `(tactic| simp! only [$ls,*]) => `(tactic| simp (disch := first | with_reducible assumption | decreasing_trivial | with_reducible exact pure_frD _ | omega) only [ev_cons, seqK_next, seqK_ret, seqK_cnt, seqK_brk, ev_retN, ev_brk, ev_cnt, ev_pass, ev_nil, bind_ok, bind_ex, bind_bad, wp_ok, wp_ex, wp_bad, cwp_ok, cwp_ex, cwp_bad, cwp_ends, flK_ret, flK_next, fin_eq', fin_same, fin_c1, exK_c1, ends_ex1, exK_eq', exK_same, forL_nil, forK_next, forK_cnt, forK_brk, forK_ret, ct_call, ct_lcall, ct_ask, lift_ok, lift_ex, liftN_ok, ends_ret, ends_next, ends_ex, List.getElem?_cons_zero, List.getElem?_cons_succ, List.getElem?_nil, List.set_cons_zero, List.set_cons_succ, List.map_cons, List.map_nil, List.length_cons, List.length_nil, List.cons_append, List.nil_append, List.replicate_succ, List.replicate_zero, Bool.not_true, Bool.not_false, Bool.false_eq_true, if_true, if_false, reduceIte, decide_true, decide_false, decide_eq_true_eq, Bool.true_or, Bool.false_or, Bool.or_true, Bool.or_false, Bool.true_and, Bool.false_and, Bool.and_true, Bool.and_false, Option.map_some, Option.map_none, Option.bind_some, Option.bind_none, Option.getD_some, Option.getD_none, ite_true, ite_false, Nat.sub_self, Nat.reduceSub, Nat.reduceAdd, Nat.reduceMul, Int.reduceAdd, Int.reduceSub, Int.reduceMul, Int.reduceNeg, Int.reduceLT, Int.reduceLE, Int.reduceEq, Int.reduceNe, Int.reduceToNat, Int.reducePow, String.reduceEq, eq_self, ne_eq, not_true_eq_false, not_false_eq_true, Rat.zero_num, Rat.zero_den, Int.cast_ofNat_Int, q_dr_non, q_dr_bl, q_dr_int, q_dr_str, q_dr_tup, q_dr_lst, q_dr_frz, q_dr_dic, q_dr_obj, q_dr_ref, q_dr_fn, q_dr_exc, q_opt_some, q_opt_none, q_tr, q_truth_non, q_truth_bl, q_truth_int, q_truth_str, q_truth_tup, q_truth_lst, q_truth_dic, q_cmp_Lt, q_cmp_LtE, q_cmp_Gt, q_cmp_GtE, q_cmp_Eq, q_cmp_Ne, q_eq_int, q_eq_str, q_eq_bl, q_Is_nn, q_Is_bb, q_Is_bl, q_Is_int, q_Is_str, q_Is_tup, q_Is_lst, q_Is_frz, q_Is_dic, q_Is_obj, q_Is_ref, q_Is_fn, q_IsNot_nn, q_IsNot_bb, q_IsNot_bl, q_IsNot_int, q_IsNot_str, q_IsNot_tup, q_IsNot_lst, q_IsNot_frz, q_IsNot_dic, q_IsNot_obj, q_IsNot_ref, q_IsNot_fn, q_bin_Add, q_bin_Sub, q_bin_Mult, q_bin_FloorDiv, q_bin_Mod, q_bin_Pow, q_bin_Adds, q_bin_Addl, q_b1_len_str, q_b1_len_lst, q_b1_len_frz, q_b1_len_tup, q_b1_abs_int, q_b1_int_int, q_b1_int_bl, q_b1_bool_int, q_b1_bool_bl, q_b1_list_lst, q_b1_list_frz, q_b1_list_tup, q_b1_list_dic, q_b1_lvals_dic, q_b1_tuple_lst, q_b1_tuple_tup, q_b1_bitlen_int, q_b1_upper_str, q_b1_rev_lst, q_b1_all_lst, q_b1_any_lst, q_b1_sum_lst, q_b2_min, q_b2_max, q_b2_join, q_b2_divmod, q_item_lst, q_item_tup, q_item_str, q_item_dici, q_item_dics, q_set_lst, q_set_dic, q_key_i, q_key_s, q_items_lst, q_items_frz, q_items_tup, q_isi_cl_int, q_isi_cl_bl, q_isi_cl_str, q_isi_cl_tup, q_isi_cl_lst, q_isi_cl_dic, q_isi_cl_non, q_isi_ty_int, q_isi_ty_bl, q_isi_ty_str, q_isi_ty_tup, q_isi_ty_lst, q_isi_ty_dic, q_isi_ty_non, q_isi_exc, q_isi_excv, q_isis_1, q_isis_2, q_isl_0, q_isl_1, q_orO, q_plain_int, q_plain_bl, q_plain_str, q_plain_tup, q_plain_lst, q_plain_dic, q_plain_non, q_rdB, q_rdS, q_rdBo_val, q_rdBo_own, q_rdBo_len, q_rdSo_val, q_rdSo_own, q_setSl, q_setT1, q_setT2, q_setSls0, q_setSls1, q_mod1, q_mod2, q_modS, q_modSo_own, q_modSo_ref, q_isL, q_isLo_own, q_isLo_ref, q_isLl, q_app, q_asgSl_lst, q_asgSl_dic, q_asgSlf_non, q_asgSlf_bl, q_asgSlf_int, q_asgSlf_str, q_asgSlf_tup, q_asgSlf_lst, q_asgSlf_frz, q_asgSlf_dic, q_asgSlf_obj, q_asgSlf_ref, q_asgSlf_fn, q_asgSlf_exc, q_asgSlt_int, q_asgSlt_str, q_asgSlt_bl, q_asgSlt_non, q_asgSlt_tup, q_asgSlt_obj, q_asgSlt_ref, q_isSeq_l, q_isSeq_d, q_frK, q_frE_nm, q_frE_bor, q_frE_kI, q_frE_kS, q_frE_kB, q_frE_kN, q_frE_glo, q_frE_neg, q_frE_not, q_frE_and, q_frE_or, q_frE_cmp, q_frE_cmp2, q_frE_ife, q_frE_callv, q_frE_ask, q_frE_bb, q_frE_isi, q_frE_ix, q_frE_tupD, q_frE_attr, q_frE_nope, q_frE_lstD, q_frE_comp, q_frE_slc, q_frE_dicD, q_frE_list, q_frE_lvals, q_frE_rev, q_frE_add, q_frE_Sub, q_frE_Mult, q_frE_FloorDiv, q_frE_Mod, q_frE_Pow, q_frE_b_len, q_frE_b_abs, q_frE_b_int, q_frE_b_tuple, q_frE_b_bitlen, q_frE_b_upper, q_frE_b_all, q_frE_b_any, q_frE_b_sum, q_frE_b_bool, q_liftP_ok, q_liftP_ex, q_frcK, q_frE_call, q_wlP, q_wlX, q_wlQ, q_wp_liftP, q_wp_lift, q_wp_liftN, q_wpK, q_wp_bind, q_lamP, q_lamX, q_cwp_lam, q_frR_nm, q_frRo_own, q_frRo_val, q_frR_bor, q_frR_kI, q_frR_kS, q_frR_kB, q_frR_kN, q_frR_glo, q_frR_neg, q_frR_not, q_frR_and, q_frR_or, q_frR_cmp, q_frR_cmp2, q_frR_ife, q_frR_callv, q_frR_ask, q_frR_bb, q_frR_isi, q_frR_ix, q_frR_tupD, q_frR_attr, q_frR_nope, q_frR_lstD, q_frR_comp, q_frR_slc, q_frR_dicD, q_frR_bu, q_frR_bin, q_frR_call, q_pairs0, q_pairs2, q_pairO, q_mkDic0, q_mkDic1, q_ixl0, q_ixl1, q_ixl2, q_ixl3, q_ixl4, q_ixl5, q_ixl6, q_ixl7, q_ixl8, q_ixl9, q_ixl10, q_ixl11, q_ixl12, q_ixm1, q_ixm2, e_nm, e_bor, e_kI, e_kS, e_kB, e_kN, e_glo, e_nope, k_binK2, k_binK1, e_bin, q_negO, k_negK, e_neg, k_notK2, k_notK1, e_not, k_blK, k_cmpK2, k_cmpK1, e_cmp, k_c2K3, k_c2K2, k_c2K1, e_cmp2, k_ifeK2, k_ifeK1, e_ife, k_callK, e_call, k_cvK, e_callv, k_askT, e_ask, k_buK, e_bu, k_bbK2, k_bbK1, e_bb, k_isiK, e_isi, k_ixK2, k_ixK1, e_ix, q_slcO_l, q_slcO_s, k_slcK3, k_slcK2, k_slcK1, e_slc, k_tupK, e_tupD, k_lstK, e_lstD, k_dicK2, k_dicK, e_dicD, k_someK, k_compK2, k_compF, k_compK3, k_compK1, e_comp, q_attrO, k_attrK, e_attr, e_es0, k_esK2, k_esK1, e_es1, e_and, e_or, e_a1, k_aK2, k_aK1, e_a2, e_o1, k_oK2, k_oK1, e_o2, k_itvK, e_itv, q_rng1O, q_rng1N, k_rng1K, e_rng1, q_rng2O, k_rng2K2, k_rng2K1, e_rng2, e_o_hole, q_intO, k_evOK, e_o_one, e_c_hole, e_c_one, k_asgK, s_asg, k_ownK, s_own, k_newK, s_new, k_asgTK, s_asgT, k_parK2, k_parK1, s_par, k_setF, k_sixK3, k_sixK2, k_sixK1, s_setIx, k_appK, s_app, k_exprK, s_expr, k_iteK2, k_iteK1, s_ite, k_forB2, k_forB, k_forK0, s_for, k_retK, s_ret, q_raisO, k_raisK, s_rais, item_fr0, item_fr1, dr_fr, setT_fr, isi_fr, isic_fr, plain_fr, len_fr, is_fr, isn_fr, zip1, st_get0, st_set0, st_get1, st_set1, st_get2, st_set2, st_get3, st_set3, st_get4, st_set4, st_get5, st_set5, st_get6, st_set6, sq_next, sq_cnt, sq_brk, sq_ret, $ls,*])
mutual
/-- data without dicts -/
def flatD : D → Bool
  | .non => true
  | .bl _ => true
  | .int _ => true
  | .str _ => true
  | .tup xs => decide (xs.length < 1000000) && flatDs xs
  | .lst xs => decide (xs.length < 1000000) && flatDs xs
  | .dic kv => false
  | .frz _ => false
  | .obj _ _ => false
  | .ref _ => false
  | .fn _ => false
  | .exc _ _ => false
def flatDs : List D → Bool
  | [] => true
  | d :: r => flatD d && flatDs r
end
mutual
def depD : D → Nat
  | .tup xs => depDs xs + 1
  | .lst xs => depDs xs + 1
  | .non => 0
  | .bl _ => 0
  | .int _ => 0
  | .str _ => 0
  | .dic _ => 0
  | .frz _ => 0
  | .obj _ _ => 0
  | .ref _ => 0
  | .fn _ => 0
  | .exc _ _ => 0
def depDs : List D → Nat
  | [] => 0
  | d :: r => max (depD d) (depDs r)
end
theorem depDs_le {xs : List D} {x : D} (h : x ∈ xs) : depD x ≤ depDs xs := by
  induction xs with
  | nil => cases h
  | cons a r ih =>
    rw [depDs]
    rcases List.mem_cons.mp h with rfl | h
    · exact Nat.le_max_left _ _
    · exact Nat.le_trans (ih h) (Nat.le_max_right _ _)
theorem flatDs_mem {xs : List D} {x : D} (hx : flatDs xs = true) (h : x ∈ xs) : flatD x = true := by
  induction xs with
  | nil => cases h
  | cons a r ih =>
    rw [flatDs, Bool.and_eq_true] at hx
    rcases List.mem_cons.mp h with rfl | h
    · exact hx.1
    · exact ih hx.2 h
theorem pureDs_mem {xs : List D} {x : D} (hx : pureDs xs = true) (h : x ∈ xs) : pureD x = true := by
  induction xs with
  | nil => cases h
  | cons a r ih =>
    rw [pureDs, Bool.and_eq_true] at hx
    rcases List.mem_cons.mp h with rfl | h
    · exact hx.1
    · exact ih hx.2 h
section
variable {t : Tx} {k : Nat} {cs : List D}
open Classical in
/-- a truth value that says P, the cells unchanged -/
def IsQ (P : Prop) (cs0 : List D) (d : D) (fr : Bool) (cs : List D) : Prop := d = .bl (decide P) ∧ fr = false ∧ cs = cs0
def sameI (a b : D) (cs0 xs ys : List D) (i : Nat) (w : W) : Prop := (∃ s2, w = ⟨[.val a, .val b, s2], cs0⟩) ∧ ∀ j, j < i → xs[j]? = ys[j]?

theorem same_wp [Has t "_law_is_whole" b_law_is_whole] [Has t "_law_same" b_law_same] : ∀ (n : Nat) (k : Nat), n + 4 ≤ k → ∀ (a b : D) (cs : List D), pureD a = true → flatD b = true → depD b < n → (callN t k "_law_same" [a, b] cs).wp (IsQ (a = b) cs) nox := by
  intro n
  induction n with
  | zero =>
    intro k hk a b cs ha hb hd
    omega
  | succ n ih =>
    intro k hk a b cs ha hb hd
    rw [call_has (d := b_law_same) (by omega) rfl rfl]
    cases b <;> first | (simp [flatD] at hb; done) | skip
    case non => cases a <;> first | (simp [pureD] at ha; done) | (simp! only [b_law_same]; exact ⟨by simp, rfl, rfl⟩)
    case bl => cases a <;> first | (simp [pureD] at ha; done) | (simp! only [b_law_same]; exact ⟨by simp, rfl, rfl⟩)
    case int => cases a <;> first | (simp [pureD] at ha; done) | (simp! only [b_law_same, ev_lwhole, isWh]; exact ⟨by simp, rfl, rfl⟩)
    case str => cases a <;> first | (simp [pureD] at ha; done) | (simp! only [b_law_same]; exact ⟨by simp, rfl, rfl⟩)
    case tup ys =>
      cases a <;> first | (simp [pureD] at ha; done) | (simp! only [b_law_same]; exact ⟨by simp, rfl, rfl⟩) | skip
      case tup xs =>
        have hll : ys.length < 1000000 := by
          rw [flatD, Bool.and_eq_true] at hb
          exact of_decide_eq_true hb.1
        have hy : flatDs ys = true := by
          rw [flatD, Bool.and_eq_true] at hb
          exact hb.2
        have hx : pureDs xs = true := by
          rw [pureD] at ha
          exact ha
        have hd2 : depDs ys < n := by
          rw [depD] at hd
          omega
        have ro : ys.length < 1000000000 := by omega
        by_cases hl : xs.length = ys.length
        · have hl2 : (xs.length : Int) = (ys.length : Int) := by omega
          simp! only [b_law_same, hl2]
          refine for_range (sameI (.tup xs) (.tup ys) cs xs ys) ?_ ?_ _ ⟨⟨_, rfl⟩, fun j hj => absurd hj (by omega)⟩
          · rintro i w hi ⟨⟨s2, rfl⟩, hj⟩
            have hi2 : i < xs.length := by omega
            have ia : itemOf (.tup xs) (.int (0 + (i : Int))) = some xs[i] := by
              rw [q_item_tup, q_ix_nn (by omega) (by omega)]
              simp [hi2]
            have ib : itemOf (.tup ys) (.int (0 + (i : Int))) = some ys[i] := by
              rw [q_item_tup, q_ix_nn (by omega) (by omega)]
              simp [hi]
            simp! only [ia, ib]
            refine cwp_mono (ih (k - 1) (by omega) _ _ _ (pureDs_mem hx (List.getElem_mem hi2)) (flatDs_mem hy (List.getElem_mem hi)) (Nat.lt_of_le_of_lt (depDs_le (List.getElem_mem hi)) hd2)) ?_ (fun _ _ _ h => h.elim)
            rintro _ _ _ ⟨rfl, rfl, rfl⟩
            by_cases he : xs[i] = ys[i]
            · simp! only [he]
              refine ⟨⟨_, rfl⟩, fun j hj' => ?_⟩
              rcases Nat.lt_or_ge j i with h | h
              · exact hj j h
              · have : j = i := by omega
                subst this
                rw [List.getElem?_eq_getElem hi2, List.getElem?_eq_getElem hi, he]
            · simp! only [he]
              refine ⟨?_, rfl, rfl⟩
              have : xs ≠ ys := fun e => he (by simp [e])
              simp [this]
          · rintro w ⟨⟨s2, rfl⟩, hj⟩
            simp! only []
            refine ⟨?_, rfl, rfl⟩
            have : xs = ys := List.ext_getElem? fun j => by
              rcases Nat.lt_or_ge j ys.length with h | h
              · exact hj j h
              · rw [List.getElem?_eq_none h, List.getElem?_eq_none (by omega)]
            simp [this]
        · have hl2 : ¬ (xs.length : Int) = (ys.length : Int) := by omega
          simp! only [b_law_same, hl2]
          refine ⟨?_, rfl, rfl⟩
          have : xs ≠ ys := fun e => hl (by rw [e])
          simp [this]
    case lst ys =>
      cases a <;> first | (simp [pureD] at ha; done) | (simp! only [b_law_same]; exact ⟨by simp, rfl, rfl⟩) | skip
      case lst xs =>
        have hll : ys.length < 1000000 := by
          rw [flatD, Bool.and_eq_true] at hb
          exact of_decide_eq_true hb.1
        have hy : flatDs ys = true := by
          rw [flatD, Bool.and_eq_true] at hb
          exact hb.2
        have hx : pureDs xs = true := by
          rw [pureD] at ha
          exact ha
        have hd2 : depDs ys < n := by
          rw [depD] at hd
          omega
        have ro : ys.length < 1000000000 := by omega
        by_cases hl : xs.length = ys.length
        · have hl2 : (xs.length : Int) = (ys.length : Int) := by omega
          simp! only [b_law_same, hl2]
          refine for_range (sameI (.lst xs) (.lst ys) cs xs ys) ?_ ?_ _ ⟨⟨_, rfl⟩, fun j hj => absurd hj (by omega)⟩
          · rintro i w hi ⟨⟨s2, rfl⟩, hj⟩
            have hi2 : i < xs.length := by omega
            have ia : itemOf (.lst xs) (.int (0 + (i : Int))) = some xs[i] := by
              rw [q_item_lst, q_ix_nn (by omega) (by omega)]
              simp [hi2]
            have ib : itemOf (.lst ys) (.int (0 + (i : Int))) = some ys[i] := by
              rw [q_item_lst, q_ix_nn (by omega) (by omega)]
              simp [hi]
            simp! only [ia, ib]
            refine cwp_mono (ih (k - 1) (by omega) _ _ _ (pureDs_mem hx (List.getElem_mem hi2)) (flatDs_mem hy (List.getElem_mem hi)) (Nat.lt_of_le_of_lt (depDs_le (List.getElem_mem hi)) hd2)) ?_ (fun _ _ _ h => h.elim)
            rintro _ _ _ ⟨rfl, rfl, rfl⟩
            by_cases he : xs[i] = ys[i]
            · simp! only [he]
              refine ⟨⟨_, rfl⟩, fun j hj' => ?_⟩
              rcases Nat.lt_or_ge j i with h | h
              · exact hj j h
              · have : j = i := by omega
                subst this
                rw [List.getElem?_eq_getElem hi2, List.getElem?_eq_getElem hi, he]
            · simp! only [he]
              refine ⟨?_, rfl, rfl⟩
              have : xs ≠ ys := fun e => he (by simp [e])
              simp [this]
          · rintro w ⟨⟨s2, rfl⟩, hj⟩
            simp! only []
            refine ⟨?_, rfl, rfl⟩
            have : xs = ys := List.ext_getElem? fun j => by
              rcases Nat.lt_or_ge j ys.length with h | h
              · exact hj j h
              · rw [List.getElem?_eq_none h, List.getElem?_eq_none (by omega)]
            simp [this]
        · have hl2 : ¬ (xs.length : Int) = (ys.length : Int) := by omega
          simp! only [b_law_same, hl2]
          refine ⟨?_, rfl, rfl⟩
          have : xs ≠ ys := fun e => hl (by rw [e])
          simp [this]
end
end RX

/-! GC: likeness as an equation; errors asked for; the law's fractions. -/
namespace RX
open PySem
local macro_rules
  | `(tactic| decreasing_trivial) => `(tactic| (with_reducible apply Sm.mono; (repeat (first | with_reducible assumption | with_reducible exact Sm.self (OfNat.ofNat _) | with_reducible exact num_bd (by assumption) | with_reducible exact den_bd (by assumption) | with_reducible apply Sm.mul | with_reducible apply Sm.add' | with_reducible apply Sm.sub' | with_reducible apply Sm.neg | (with_reducible apply Sm.fmod (by decide)))); decide))
local macro_rules
  | `(tactic| simp! only [$ls,*]) => `(tactic| simp (disch := first | with_reducible assumption | decreasing_trivial | with_reducible exact pure_frD _ | omega) only [ev_cons, seqK_next, seqK_ret, seqK_cnt, seqK_brk, ev_retN, ev_brk, ev_cnt, ev_pass, ev_nil, bind_ok, bind_ex, bind_bad, wp_ok, wp_ex, wp_bad, cwp_ok, cwp_ex, cwp_bad, cwp_ends, flK_ret, flK_next, fin_eq', fin_same, fin_c1, exK_c1, ends_ex1, exK_eq', exK_same, forL_nil, forK_next, forK_cnt, forK_brk, forK_ret, ct_call, ct_lcall, ct_ask, lift_ok, lift_ex, liftN_ok, ends_ret, ends_next, ends_ex, List.getElem?_cons_zero, List.getElem?_cons_succ, List.getElem?_nil, List.set_cons_zero, List.set_cons_succ, List.map_cons, List.map_nil, List.length_cons, List.length_nil, List.cons_append, List.nil_append, List.replicate_succ, List.replicate_zero, Bool.not_true, Bool.not_false, Bool.false_eq_true, if_true, if_false, reduceIte, decide_true, decide_false, decide_eq_true_eq, Bool.true_or, Bool.false_or, Bool.or_true, Bool.or_false, Bool.true_and, Bool.false_and, Bool.and_true, Bool.and_false, Option.map_some, Option.map_none, Option.bind_some, Option.bind_none, Option.getD_some, Option.getD_none, ite_true, ite_false, Nat.sub_self, Nat.reduceSub, Nat.reduceAdd, Nat.reduceMul, Int.reduceAdd, Int.reduceSub, Int.reduceMul, Int.reduceNeg, Int.reduceLT, Int.reduceLE, Int.reduceEq, Int.reduceNe, Int.reduceToNat, Int.reducePow, String.reduceEq, eq_self, ne_eq, not_true_eq_false, not_false_eq_true, Rat.zero_num, Rat.zero_den, Int.cast_ofNat_Int, q_dr_non, q_dr_bl, q_dr_int, q_dr_str, q_dr_tup, q_dr_lst, q_dr_frz, q_dr_dic, q_dr_obj, q_dr_ref, q_dr_fn, q_dr_exc, q_opt_some, q_opt_none, q_tr, q_truth_non, q_truth_bl, q_truth_int, q_truth_str, q_truth_tup, q_truth_lst, q_truth_dic, q_cmp_Lt, q_cmp_LtE, q_cmp_Gt, q_cmp_GtE, q_cmp_Eq, q_cmp_Ne, q_eq_int, q_eq_str, q_eq_bl, q_Is_nn, q_Is_bb, q_Is_bl, q_Is_int, q_Is_str, q_Is_tup, q_Is_lst, q_Is_frz, q_Is_dic, q_Is_obj, q_Is_ref, q_Is_fn, q_IsNot_nn, q_IsNot_bb, q_IsNot_bl, q_IsNot_int, q_IsNot_str, q_IsNot_tup, q_IsNot_lst, q_IsNot_frz, q_IsNot_dic, q_IsNot_obj, q_IsNot_ref, q_IsNot_fn, q_bin_Add, q_bin_Sub, q_bin_Mult, q_bin_FloorDiv, q_bin_Mod, q_bin_Pow, q_bin_Adds, q_bin_Addl, q_b1_len_str, q_b1_len_lst, q_b1_len_frz, q_b1_len_tup, q_b1_abs_int, q_b1_int_int, q_b1_int_bl, q_b1_bool_int, q_b1_bool_bl, q_b1_list_lst, q_b1_list_frz, q_b1_list_tup, q_b1_list_dic, q_b1_lvals_dic, q_b1_tuple_lst, q_b1_tuple_tup, q_b1_bitlen_int, q_b1_upper_str, q_b1_rev_lst, q_b1_all_lst, q_b1_any_lst, q_b1_sum_lst, q_b2_min, q_b2_max, q_b2_join, q_b2_divmod, q_item_lst, q_item_tup, q_item_str, q_item_dici, q_item_dics, q_set_lst, q_set_dic, q_key_i, q_key_s, q_items_lst, q_items_frz, q_items_tup, q_isi_cl_int, q_isi_cl_bl, q_isi_cl_str, q_isi_cl_tup, q_isi_cl_lst, q_isi_cl_dic, q_isi_cl_non, q_isi_ty_int, q_isi_ty_bl, q_isi_ty_str, q_isi_ty_tup, q_isi_ty_lst, q_isi_ty_dic, q_isi_ty_non, q_isi_exc, q_isi_excv, q_isis_1, q_isis_2, q_isl_0, q_isl_1, q_orO, q_plain_int, q_plain_bl, q_plain_str, q_plain_tup, q_plain_lst, q_plain_dic, q_plain_non, q_rdB, q_rdS, q_rdBo_val, q_rdBo_own, q_rdBo_len, q_rdSo_val, q_rdSo_own, q_setSl, q_setT1, q_setT2, q_setSls0, q_setSls1, q_mod1, q_mod2, q_modS, q_modSo_own, q_modSo_ref, q_isL, q_isLo_own, q_isLo_ref, q_isLl, q_app, q_asgSl_lst, q_asgSl_dic, q_asgSlf_non, q_asgSlf_bl, q_asgSlf_int, q_asgSlf_str, q_asgSlf_tup, q_asgSlf_lst, q_asgSlf_frz, q_asgSlf_dic, q_asgSlf_obj, q_asgSlf_ref, q_asgSlf_fn, q_asgSlf_exc, q_asgSlt_int, q_asgSlt_str, q_asgSlt_bl, q_asgSlt_non, q_asgSlt_tup, q_asgSlt_obj, q_asgSlt_ref, q_isSeq_l, q_isSeq_d, q_frK, q_frE_nm, q_frE_bor, q_frE_kI, q_frE_kS, q_frE_kB, q_frE_kN, q_frE_glo, q_frE_neg, q_frE_not, q_frE_and, q_frE_or, q_frE_cmp, q_frE_cmp2, q_frE_ife, q_frE_callv, q_frE_ask, q_frE_bb, q_frE_isi, q_frE_ix, q_frE_tupD, q_frE_attr, q_frE_nope, q_frE_lstD, q_frE_comp, q_frE_slc, q_frE_dicD, q_frE_list, q_frE_lvals, q_frE_rev, q_frE_add, q_frE_Sub, q_frE_Mult, q_frE_FloorDiv, q_frE_Mod, q_frE_Pow, q_frE_b_len, q_frE_b_abs, q_frE_b_int, q_frE_b_tuple, q_frE_b_bitlen, q_frE_b_upper, q_frE_b_all, q_frE_b_any, q_frE_b_sum, q_frE_b_bool, q_liftP_ok, q_liftP_ex, q_frcK, q_frE_call, q_wlP, q_wlX, q_wlQ, q_wp_liftP, q_wp_lift, q_wp_liftN, q_wpK, q_wp_bind, q_lamP, q_lamX, q_cwp_lam, q_frR_nm, q_frRo_own, q_frRo_val, q_frR_bor, q_frR_kI, q_frR_kS, q_frR_kB, q_frR_kN, q_frR_glo, q_frR_neg, q_frR_not, q_frR_and, q_frR_or, q_frR_cmp, q_frR_cmp2, q_frR_ife, q_frR_callv, q_frR_ask, q_frR_bb, q_frR_isi, q_frR_ix, q_frR_tupD, q_frR_attr, q_frR_nope, q_frR_lstD, q_frR_comp, q_frR_slc, q_frR_dicD, q_frR_bu, q_frR_bin, q_frR_call, q_pairs0, q_pairs2, q_pairO, q_mkDic0, q_mkDic1, q_ixl0, q_ixl1, q_ixl2, q_ixl3, q_ixl4, q_ixl5, q_ixl6, q_ixl7, q_ixl8, q_ixl9, q_ixl10, q_ixl11, q_ixl12, q_ixm1, q_ixm2, e_nm, e_bor, e_kI, e_kS, e_kB, e_kN, e_glo, e_nope, k_binK2, k_binK1, e_bin, q_negO, k_negK, e_neg, k_notK2, k_notK1, e_not, k_blK, k_cmpK2, k_cmpK1, e_cmp, k_c2K3, k_c2K2, k_c2K1, e_cmp2, k_ifeK2, k_ifeK1, e_ife, k_callK, e_call, k_cvK, e_callv, k_askT, e_ask, k_buK, e_bu, k_bbK2, k_bbK1, e_bb, k_isiK, e_isi, k_ixK2, k_ixK1, e_ix, q_slcO_l, q_slcO_s, k_slcK3, k_slcK2, k_slcK1, e_slc, k_tupK, e_tupD, k_lstK, e_lstD, k_dicK2, k_dicK, e_dicD, k_someK, k_compK2, k_compF, k_compK3, k_compK1, e_comp, q_attrO, k_attrK, e_attr, e_es0, k_esK2, k_esK1, e_es1, e_and, e_or, e_a1, k_aK2, k_aK1, e_a2, e_o1, k_oK2, k_oK1, e_o2, k_itvK, e_itv, q_rng1O, q_rng1N, k_rng1K, e_rng1, q_rng2O, k_rng2K2, k_rng2K1, e_rng2, e_o_hole, q_intO, k_evOK, e_o_one, e_c_hole, e_c_one, k_asgK, s_asg, k_ownK, s_own, k_newK, s_new, k_asgTK, s_asgT, k_parK2, k_parK1, s_par, k_setF, k_sixK3, k_sixK2, k_sixK1, s_setIx, k_appK, s_app, k_exprK, s_expr, k_iteK2, k_iteK1, s_ite, k_forB2, k_forB, k_forK0, s_for, k_retK, s_ret, q_raisO, k_raisK, s_rais, item_fr0, item_fr1, dr_fr, setT_fr, isi_fr, isic_fr, plain_fr, len_fr, is_fr, isn_fr, zip1, st_get0, st_set0, st_get1, st_set1, st_get2, st_set2, st_get3, st_set3, st_get4, st_set4, st_get5, st_set5, st_get6, st_set6, sq_next, sq_cnt, sq_brk, sq_ret, $ls,*])
class HasA (t : Tx) (f : String) (a : Ad) : Prop where
  h : t.A f = some a
theorem flat_fr {x : Rat} : flatD (frD x) = true := by simp [frD, flatD, flatDs]
theorem dep_fr {x : Rat} : depD (frD x) = 1 := by simp [frD, depD, depDs]
mutual
theorem flat_pure : ∀ {d : D}, flatD d = true → pureD d = true
  | .non, _ => by rw [pureD]
  | .bl _, _ => by rw [pureD]
  | .int _, _ => by rw [pureD]
  | .str _, _ => by rw [pureD]
  | .tup xs, h => by
    rw [flatD, Bool.and_eq_true] at h
    rw [pureD]
    exact flat_pures h.2
  | .lst xs, h => by
    rw [flatD, Bool.and_eq_true] at h
    rw [pureD]
    exact flat_pures h.2
  | .dic _, h => by rw [flatD] at h; cases h
  | .frz _, h => by rw [flatD] at h; cases h
  | .obj _ _, h => by rw [flatD] at h; cases h
  | .ref _, h => by rw [flatD] at h; cases h
  | .fn _, h => by rw [flatD] at h; cases h
  | .exc _ _, h => by rw [flatD] at h; cases h
theorem flat_pures : ∀ {d : List D}, flatDs d = true → pureDs d = true
  | [], _ => by rw [pureDs]
  | d :: r, h => by
    rw [flatDs, Bool.and_eq_true] at h
    rw [pureDs, flat_pure h.1, flat_pures h.2]
    rfl
end
theorem noXs_ints (xs : List Int) : noXs (xs.map D.int) = true := by
  induction xs with
  | nil => rw [List.map_nil, noXs]
  | cons a r ih => rw [List.map_cons, noXs, noX, ih]; rfl
theorem St.noX {N : Nat} {s : D} (h : St N s) : RX.noX s = true := by
  obtain ⟨xs, pos, big, cnt, seed, f5, f6, rfl, _⟩ := h
  simp [RX.noX, noXs, noXs_ints]
section
variable {t : Tx} {k : Nat} {cs : List D}
theorem ev_same [Has t "_law_is_whole" b_law_is_whole] [Has t "_law_same" b_law_same] {a : D} (hf : flatD a = true) (hk : depD a + 5 ≤ k) : callN t k "_law_same" [a, a] cs = .ok (.bl true) false cs := by
  obtain ⟨d, fr, cs', e, rfl, rfl, rfl⟩ := cwp_get (same_wp (t := t) (depD a + 1) k hk a a cs (flat_pure hf) hf (by omega))
  rw [e]
  simp
theorem ev_same_fr [Has t "_law_is_whole" b_law_is_whole] [Has t "_law_same" b_law_same] {x : Rat} (hk : 6 ≤ k) : callN t k "_law_same" [frD x, frD x] cs = .ok (.bl true) false cs := ev_same flat_fr (by rw [dep_fr]; omega)
theorem ev_same_int [Has t "_law_is_whole" b_law_is_whole] [Has t "_law_same" b_law_same] {x : Int} (hk : 6 ≤ k) : callN t k "_law_same" [.int x, .int x] cs = .ok (.bl true) false cs := ev_same (by rw [flatD]) (by rw [depD]; omega)
theorem ev_same_ss [Has t "_law_is_whole" b_law_is_whole] [Has t "_law_same" b_law_same] {x y : List Nat} (hk : 6 ≤ k) : callN t k "_law_same" [.tup [.str x, .str y], .tup [.str x, .str y]] cs = .ok (.bl true) false cs := ev_same (by simp [flatD, flatDs]) (by simp [depD, depDs]; omega)
theorem isExc_eq {C c : String} : isExc C c = (decide (C = c) || decide (c = "SkyError")) := rfl
theorem lookup1 {a : String} {d : D} {r : List (String × D)} : List.lookup a ((a, d) :: r) = some d := by simp
def sBad : List Nat := [66, 97, 100, 86, 97, 108, 117, 101]
def askTh (a : Ad) (C : String) (d : D) (cs : List D) : Prop := a = a ∧ C = C ∧ d = d ∧ cs = cs
theorem ask_bad [hA : HasA t "_law_asked" b_law_asked] [HasC t "BadValue" ["what"]] {th : List D → CR} {s : List Nat} (h : th cs = bad s cs) (hx : noXs cs = true) : askOf t.A t.fl "_law_asked" th cs = .ok (.tup [.str sBad, .str s]) false cs := by
  unfold askOf
  rw [hA.h]
  dsimp only
  rw [h]
  unfold askR
  dsimp only
  rw [fl_of (t := t) (C := "BadValue") (fs := ["what"])]
  have e : evS t.fl badCt b_law_asked.s ⟨(List.replicate b_law_asked.ns .no).set b_law_asked.i (.val (.exc "BadValue" [("what", .str s)])), cs⟩ = .ok (.ret (.tup [.str sBad, .str s]) false) ⟨[.no, .val (.exc "BadValue" [("what", .str s)]), .own (.lst [.tup [.str sBad, .str s]])], cs⟩ := by
    have l1 : lineOk 1 = true := by decide
    simp! only [b_law_asked, isExc_eq, lookup1, l1, sBad]
  rw [e]
  simp [isExc, b_law_asked, noX, noXs, hx]
theorem ask_wp [hA : HasA t "_law_asked" b_law_asked] [HasC t "BadValue" ["what"]] {th : List D → CR} (s : List Nat) {P : D → Bool → List D → Prop} {Y : String → List (String × D) → List D → Prop} (h : th cs = bad s cs) (hx : noXs cs = true) (hq : P (.tup [.str sBad, .str s]) false cs) : (askOf t.A t.fl "_law_asked" th cs).wp P Y := by
  rw [ask_bad h hx]
  exact hq
theorem lmc_call {c : Ct} : (lamCt c).call = c.lcall := Eq.trans rfl rfl
theorem lnd_val {d : D} : lend (.val d) = .val d := Eq.trans rfl rfl
theorem lnd_no : lend .no = .no := Eq.trans rfl rfl
theorem lnd_own {d : D} : lend (.own d) = .no := Eq.trans rfl rfl
theorem lnd_len {d : D} : lend (.len d) = .no := Eq.trans rfl rfl
theorem lmc_ok {d : D} {w : W} : lamCR (.ok d w) = .ok d false w.cs := Eq.trans rfl rfl
theorem lmc_ex {C : String} {fs : List (String × D)} {w : W} : lamCR (.ex C fs w) = .ex C fs w.cs := Eq.trans rfl rfl
/-- two arguments are asked for their form -/
def Ref2 (t : Tx) (f : String) : Prop := (∀ k cs d e, 6 ≤ k → pureD d = true → pureD e = true → isFr d = false → callN t k f [d, e] cs = bad sL cs) ∧ (∀ k cs d e, 6 ≤ k → pureD d = true → pureD e = true → isFr d = true → isFr e = false → callN t k f [d, e] cs = bad sR cs)
theorem opt_mem {L : List D} {i : Nat} {Q : D → W → Prop} {X : String → List (String × D) → W → Prop} {w : W} (P : D → Prop) (hi : i < L.length) (hL : ∀ d ∈ L, P d) (h : ∀ d, P d → Q d w) : (opt L[i]? w).wp Q X := by
  rw [List.getElem?_eq_getElem hi]
  exact h _ (hL _ (List.getElem_mem hi))
/-! the store, the law -/
theorem Sm.bits {n : Nat} {z : Int} (h : Builtin.Int.intBits z ≤ n) : Sm n z := by
  unfold Builtin.Int.intBits at h
  by_cases h0 : z = 0
  · subst h0
    exact ⟨Nat.pos_of_ne_zero (by simp)⟩
  · have : (z == 0) = false := by simpa using h0
    rw [this] at h
    simp only [Bool.false_eq_true, if_false] at h
    exact ⟨(Nat.log2_lt (by omega)).mp (by omega)⟩
theorem Sm.zero {n : Nat} : Sm n 0 := ⟨Nat.pos_of_ne_zero (by simp)⟩
theorem fin_nil {d : D} {fr : Bool} : fin 0 d fr [] = .ok d fr [] := fin_eq rfl
theorem fin_law {b : Bool} {fr : Bool} {s : D} : fin 0 (.bl b) fr [s] = .ok (.bl b) false [] := by
  unfold fin
  rw [if_neg (by simp), if_pos (by rfl)]
  rfl
theorem St.seq {N : Nat} {s : D} (h : St N s) : isSeq s = true := by
  obtain ⟨xs, pos, big, cnt, seed, f5, f6, rfl, _⟩ := h
  rfl
theorem noXs1 {N : Nat} {s : D} (h : St N s) : noXs [s] = true := by rw [noXs, noXs, h.noX]; rfl
def storeI (ns : List Int) (i : Nat) (w : W) : Prop := ∃ seed s2, w = ⟨[.val (.frz (ns.map D.int)), .val (.int seed), s2], []⟩ ∧ Sm 100 seed
theorem store_wp [Has t "_law_store" b_law_store] (hk : 3 ≤ k) {ns : List Int} (hl : ns.length ≤ 63) (hb : ∀ z ∈ ns, Builtin.Int.intBits z ≤ 1048576) :
    (callN t k "_law_store" [.frz (ns.map D.int)] []).wp (fun d fr cs => fr = true ∧ cs = [] ∧ St 0 d) nox := by
  rw [call_has (d := b_law_store) (by omega) rfl rfl]
  simp! only [b_law_store, List.length_map]
  refine for_list (storeI ns) ?_ ?_ _ ⟨_, _, rfl, ?_⟩
  · rintro i x w hx ⟨seed, s2, rfl, hs⟩
    obtain ⟨z, hz, rfl⟩ := List.mem_map.mp (List.mem_of_getElem? hx)
    simp! only [mulM]
    exact ⟨_, _, rfl, by decreasing_trivial⟩
  · rintro w ⟨seed, s2, rfl, hs⟩
    simp! only [fin_nil]
    exact ⟨trivial, trivial, ns, _, _, _, _, _, _, rfl, by decide, fun z hz => Sm.bits (hb z hz), by decide, Sm.zero, by decide, by decide⟩
  · have : Sm 10 (ns.length : Int) := Sm.nat (by omega)
    decreasing_trivial
end
end RX

/-! K01d: the text of law k01 (printed by mk.py). -/
namespace K01
open RX PySem
def b_law_two : Df := ⟨1, 4, [],
  .cons (.asg 1 (.call "_law_frac_wide" (.cons (.nm 0) .nil))) (
  .cons (.asg 2 (.call "_law_pick" (.cons (.nm 0) (.cons (.lstD (.cons (.kI 1) (.cons (.neg (.kI 1)) (.cons (.kI 2) .nil)))) .nil)))) (
  .cons (.asg 3 (.ix (.lstD (.cons (.nm 1) (.cons (.tupD (.cons (.neg (.ix (.bor 1) (.kI 0))) (.cons (.ix (.bor 1) (.kI 1)) .nil))) (.cons (.call "_law_over" (.cons (.tupD (.cons (.kI 1) (.cons (.kI 1) .nil))) (.cons (.nm 1) .nil))) (.cons (.call "_law_lowest" (.cons (.bin .Add (.ix (.bor 1) (.kI 0)) (.bor 2)) (.cons (.ix (.bor 1) (.kI 1)) .nil))) (.cons (.call "_law_lowest" (.cons (.ix (.bor 1) (.kI 0)) (.cons (.bb .max (.kI 1) (.bin .Add (.ix (.bor 1) (.kI 1)) (.bor 2))) .nil))) (.cons (.call "_law_frac_wide" (.cons (.nm 0) .nil)) (.cons (.call "_law_frac_wide" (.cons (.nm 0) .nil)) (.cons (.call "_law_frac" (.cons (.nm 0) .nil)) .nil))))))))) (.call "_law_take" (.cons (.nm 0) (.cons (.kI 8) .nil))))) (
  .cons (.ite (.not (.call "_law_fits" (.cons (.nm 3) .nil))) (.cons (.asg 3 (.nm 1)) .nil) (.nil)) (
  .cons (.ite (.cmp .Eq (.call "_law_take" (.cons (.nm 0) (.cons (.kI 2) .nil))) (.kI 0)) (.cons (.ret (.tupD (.cons (.nm 3) (.cons (.nm 1) .nil)))) .nil) (.nil)) (
  .cons (.ret (.tupD (.cons (.nm 1) (.cons (.nm 3) .nil)))) .nil)))))⟩
def b_law_is_quotient : Df := ⟨3, 3, [],
  .cons (.ret (.and (.cons (.call "_law_is_frac" (.cons (.nm 0) .nil)) (.cons (.cmp .Eq (.bin .Mult (.ix (.bor 0) (.kI 0)) (.bor 2)) (.bin .Mult (.bor 1) (.ix (.bor 0) (.kI 1)))) .nil)))) .nil⟩
def b_law_holds : Df := ⟨2, 10, [],
  .cons (.asgT [2, 3] (.nm 0)) (
  .cons (.asgT [4, 5] (.nm 1)) (
  .cons (.asg 6 (.call "plus" (.cons (.nm 0) (.cons (.nm 1) .nil)))) (
  .cons (.asg 7 (.call "times" (.cons (.nm 0) (.cons (.nm 1) .nil)))) (
  .cons (.ite (.or (.cons (.not (.call "_law_is_quotient" (.cons (.nm 6) (.cons (.bin .Add (.bin .Mult (.bor 2) (.bor 5)) (.bin .Mult (.bor 4) (.bor 3))) (.cons (.bin .Mult (.bor 3) (.bor 5)) .nil))))) (.cons (.not (.call "_law_is_quotient" (.cons (.nm 7) (.cons (.bin .Mult (.bor 2) (.bor 4)) (.cons (.bin .Mult (.bor 3) (.bor 5)) .nil))))) .nil))) (.cons (.ret (.kB false)) .nil) (.nil)) (
  .cons (.ite (.not (.call "_law_is_quotient" (.cons (.call "minus" (.cons (.nm 0) (.cons (.nm 1) .nil))) (.cons (.bin .Sub (.bin .Mult (.bor 2) (.bor 5)) (.bin .Mult (.bor 4) (.bor 3))) (.cons (.bin .Mult (.bor 3) (.bor 5)) .nil))))) (.cons (.ret (.kB false)) .nil) (.nil)) (
  .cons (.ite (.or (.cons (.not (.call "_law_same" (.cons (.call "minus" (.cons (.nm 6) (.cons (.nm 1) .nil))) (.cons (.nm 0) .nil)))) (.cons (.not (.call "_law_same" (.cons (.call "plus" (.cons (.call "minus" (.cons (.nm 0) (.cons (.nm 1) .nil))) (.cons (.nm 1) .nil))) (.cons (.nm 0) .nil)))) .nil))) (.cons (.ret (.kB false)) .nil) (.nil)) (
  .cons (.ite (.cmp .NotEq (.bor 4) (.kI 0)) (.cons (.ite (.or (.cons (.not (.call "_law_is_quotient" (.cons (.call "over" (.cons (.nm 0) (.cons (.nm 1) .nil))) (.cons (.bin .Mult (.bor 2) (.bor 5)) (.cons (.bin .Mult (.bor 3) (.bor 4)) .nil))))) (.cons (.not (.call "_law_same" (.cons (.call "over" (.cons (.nm 7) (.cons (.nm 1) .nil))) (.cons (.nm 0) .nil)))) .nil))) (.cons (.ret (.kB false)) .nil) (.nil)) .nil) (.nil)) (
  .cons (.asg 8 (.bin .Sub (.bin .Mult (.bor 2) (.bor 5)) (.bin .Mult (.bor 4) (.bor 3)))) (
  .cons (.asg 9 (.bin .Sub (.bu .int (.cmp .Gt (.bor 8) (.kI 0))) (.bu .int (.cmp .Lt (.bor 8) (.kI 0))))) (
  .cons (.ite (.or (.cons (.not (.call "_law_same" (.cons (.call "compare" (.cons (.nm 0) (.cons (.nm 1) .nil))) (.cons (.nm 9) .nil)))) (.cons (.not (.call "_law_same" (.cons (.call "compare" (.cons (.nm 1) (.cons (.nm 0) .nil))) (.cons (.neg (.nm 9)) .nil)))) .nil))) (.cons (.ret (.kB false)) .nil) (.nil)) (
  .cons (.ret (.call "_law_same" (.cons (.call "compare" (.cons (.nm 6) (.cons (.nm 0) .nil))) (.cons (.bin .Sub (.bu .int (.cmp .Gt (.bor 4) (.kI 0))) (.bu .int (.cmp .Lt (.bor 4) (.kI 0)))) .nil)))) .nil)))))))))))⟩
def b_law_refuses : Df := ⟨3, 6, [],
  .cons (.for_ [3] (.itv (.lstD (.cons (.glo "plus") (.cons (.glo "minus") (.cons (.glo "times") (.cons (.glo "over") (.cons (.glo "compare") .nil))))))) (.cons (.asg 4 (.call "_law_bad_frac" (.cons (.nm 0) .nil))) (
    .cons (.asg 5 (.call "_law_bad_frac" (.cons (.nm 0) .nil))) (
    .cons (.ite (.not (.call "_law_same" (.cons (.ask "_law_asked" (.callv 3 ["compare", "minus", "over", "plus", "times"] (.cons (.nm 4) (.cons (.nm 2) .nil)))) (.cons (.tupD (.cons (.kS [66, 97, 100, 86, 97, 108, 117, 101]) (.cons (.kS [108, 101, 102, 116]) .nil))) .nil)))) (.cons (.ret (.kB false)) .nil) (.nil)) (
    .cons (.ite (.not (.call "_law_same" (.cons (.ask "_law_asked" (.callv 3 ["compare", "minus", "over", "plus", "times"] (.cons (.nm 4) (.cons (.nm 5) .nil)))) (.cons (.tupD (.cons (.kS [66, 97, 100, 86, 97, 108, 117, 101]) (.cons (.kS [108, 101, 102, 116]) .nil))) .nil)))) (.cons (.ret (.kB false)) .nil) (.nil)) (
    .cons (.ite (.not (.call "_law_same" (.cons (.ask "_law_asked" (.callv 3 ["compare", "minus", "over", "plus", "times"] (.cons (.nm 1) (.cons (.nm 5) .nil)))) (.cons (.tupD (.cons (.kS [66, 97, 100, 86, 97, 108, 117, 101]) (.cons (.kS [114, 105, 103, 104, 116]) .nil))) .nil)))) (.cons (.ret (.kB false)) .nil) (.nil)) .nil)))))) (
  .cons (.asg 4 (.call "_law_bad_frac" (.cons (.nm 0) .nil))) (
  .cons (.ite (.not (.call "_law_same" (.cons (.ask "_law_asked" (.call "over" (.cons (.nm 4) (.cons (.tupD (.cons (.kI 0) (.cons (.kI 1) .nil))) .nil)))) (.cons (.tupD (.cons (.kS [66, 97, 100, 86, 97, 108, 117, 101]) (.cons (.kS [108, 101, 102, 116]) .nil))) .nil)))) (.cons (.ret (.kB false)) .nil) (.nil)) (
  .cons (.ret (.call "_law_same" (.cons (.ask "_law_asked" (.call "over" (.cons (.nm 1) (.cons (.tupD (.cons (.kI 0) (.cons (.kI 1) .nil))) .nil)))) (.cons (.tupD (.cons (.kS [66, 97, 100, 86, 97, 108, 117, 101]) (.cons (.kS [114, 105, 103, 104, 116]) .nil))) .nil)))) .nil)))⟩
def b_law : Df := ⟨1, 5, [],
  .cons (.new 1 (.call "_law_store" (.cons (.nm 0) .nil))) (
  .cons (.asg 2 (.call "_law_two" (.cons (.nm 1) .nil))) (
  .cons (.asg 3 (.call "_law_two" (.cons (.nm 1) .nil))) (
  .cons (.for_ [4] (.itv (.lstD (.cons (.nm 2) (.cons (.nm 3) (.cons (.nm 2) (.cons (.tupD (.cons (.ix (.bor 3) (.kI 1)) (.cons (.ix (.bor 2) (.kI 0)) .nil))) .nil)))))) (.cons (.ite (.or (.cons (.not (.call "_law_holds" (.cons (.ix (.bor 4) (.kI 0)) (.cons (.ix (.bor 4) (.kI 1)) .nil)))) (.cons (.not (.call "_law_refuses" (.cons (.nm 1) (.cons (.ix (.bor 4) (.kI 0)) (.cons (.ix (.bor 4) (.kI 1)) .nil))))) .nil))) (.cons (.ret (.kB false)) .nil) (.nil)) .nil)) (
  .cons (.ret (.kB true)) .nil))))⟩
def text : MT := ⟨[⟨"whole_number", ["value"], false, b_whole_number⟩,
  ⟨"common_divisor", ["left", "right"], false, b_common_divisor⟩,
  ⟨"lowest", ["numerator", "denominator", "divisor"], false, b_lowest⟩,
  ⟨"is_fraction", ["value", "numerator", "denominator"], false, b_is_fraction⟩,
  ⟨"check_pair", ["left", "right"], false, b_check_pair⟩,
  ⟨"plus", ["left", "right"], false, b_plus⟩,
  ⟨"minus", ["left", "right"], false, b_minus⟩,
  ⟨"times", ["left", "right"], false, b_times⟩,
  ⟨"over", ["left", "right"], false, b_over⟩,
  ⟨"compare", ["left", "right", "difference"], false, b_compare⟩,
  ⟨"_law_mixed", ["_law_number", "_law_turn", "_law_value"], false, b_law_mixed⟩,
  ⟨"_law_store", ["_law_script", "_law_seed", "_law_cell"], false, b_law_store⟩,
  ⟨"_law_take", ["_law_store_here", "_law_many", "_law_cell", "_law_digit", "_law_number", "_law_value", "_law_k"], false, b_law_take⟩,
  ⟨"_law_pick", ["_law_store_here", "_law_row"], false, b_law_pick⟩,
  ⟨"_law_gcd", ["_law_left", "_law_right"], false, b_law_gcd⟩,
  ⟨"_law_lowest", ["_law_top", "_law_bottom", "_law_common"], false, b_law_lowest⟩,
  ⟨"_law_over", ["_law_left", "_law_right"], false, b_law_over⟩,
  ⟨"_law_is_whole", ["_law_told"], false, b_law_is_whole⟩,
  ⟨"_law_is_frac", ["_law_told"], false, b_law_is_frac⟩,
  ⟨"_law_same", ["_law_told", "_law_due", "_law_k"], false, b_law_same⟩,
  ⟨"_law_fits", ["_law_thing", "_law_item"], false, b_law_fits⟩,
  ⟨"_law_whole", ["_law_store_here", "_law_reach", "_law_spot"], false, b_law_whole⟩,
  ⟨"_law_great", ["_law_store_here", "_law_spot", "_law_value", "_law_k"], false, b_law_great⟩,
  ⟨"_law_frac", ["_law_store_here", "_law_spot", "_law_bottom"], false, b_law_frac⟩,
  ⟨"_law_frac_wide", ["_law_store_here", "_law_spot"], false, b_law_frac_wide⟩,
  ⟨"_law_bad_frac", ["_law_store_here", "_law_value", "_law_more", "_law_bent", "_law_bad"], false, b_law_bad_frac⟩,
  ⟨"_law_two", ["_law_store_here", "_law_left", "_law_near", "_law_right"], false, b_law_two⟩,
  ⟨"_law_is_quotient", ["_law_told", "_law_top", "_law_bottom"], false, b_law_is_quotient⟩,
  ⟨"_law_holds", ["_law_left", "_law_right", "_law_a", "_law_b", "_law_c", "_law_d", "_law_total", "_law_product", "_law_gap", "_law_due"], false, b_law_holds⟩,
  ⟨"_law_refuses", ["_law_store_here", "_law_left", "_law_right", "_law_call", "_law_bad", "_law_other"], true, b_law_refuses⟩,
  ⟨"law", ["_law_script", "_law_store_here", "_law_first", "_law_second", "_law_pair"], false, b_law⟩],
  [⟨"_law_asked", ["_law_call", "e", "_law_kinds"], b_law_asked⟩],
  [⟨"BadValue", ["what"]⟩],
  ["SkyError", "BadValue", "Mismatch", "Still", "Endless", "TooMany", "NoName", "Taken", "Locked", "Looped", "Broken", "ReadError"], ["column", "limit", "line", "loop", "name", "reason", "what"]⟩

abbrev T : Tx := text.tx
instance : Has T "whole_number" b_whole_number := ⟨by kernel_rfl⟩
instance : Has T "common_divisor" b_common_divisor := ⟨by kernel_rfl⟩
instance : Has T "lowest" b_lowest := ⟨by kernel_rfl⟩
instance : Has T "is_fraction" b_is_fraction := ⟨by kernel_rfl⟩
instance : Has T "check_pair" b_check_pair := ⟨by kernel_rfl⟩
instance : Has T "plus" b_plus := ⟨by kernel_rfl⟩
instance : Has T "minus" b_minus := ⟨by kernel_rfl⟩
instance : Has T "times" b_times := ⟨by kernel_rfl⟩
instance : Has T "over" b_over := ⟨by kernel_rfl⟩
instance : Has T "compare" b_compare := ⟨by kernel_rfl⟩
instance : Has T "_law_mixed" b_law_mixed := ⟨by kernel_rfl⟩
instance : Has T "_law_store" b_law_store := ⟨by kernel_rfl⟩
instance : Has T "_law_take" b_law_take := ⟨by kernel_rfl⟩
instance : Has T "_law_pick" b_law_pick := ⟨by kernel_rfl⟩
instance : Has T "_law_gcd" b_law_gcd := ⟨by kernel_rfl⟩
instance : Has T "_law_lowest" b_law_lowest := ⟨by kernel_rfl⟩
instance : Has T "_law_over" b_law_over := ⟨by kernel_rfl⟩
instance : Has T "_law_is_whole" b_law_is_whole := ⟨by kernel_rfl⟩
instance : Has T "_law_is_frac" b_law_is_frac := ⟨by kernel_rfl⟩
instance : Has T "_law_same" b_law_same := ⟨by kernel_rfl⟩
instance : Has T "_law_fits" b_law_fits := ⟨by kernel_rfl⟩
instance : Has T "_law_whole" b_law_whole := ⟨by kernel_rfl⟩
instance : Has T "_law_great" b_law_great := ⟨by kernel_rfl⟩
instance : Has T "_law_frac" b_law_frac := ⟨by kernel_rfl⟩
instance : Has T "_law_frac_wide" b_law_frac_wide := ⟨by kernel_rfl⟩
instance : Has T "_law_bad_frac" b_law_bad_frac := ⟨by kernel_rfl⟩
instance : Has T "_law_two" b_law_two := ⟨by kernel_rfl⟩
instance : Has T "_law_is_quotient" b_law_is_quotient := ⟨by kernel_rfl⟩
instance : Has T "_law_holds" b_law_holds := ⟨by kernel_rfl⟩
instance : Has T "_law_refuses" b_law_refuses := ⟨by kernel_rfl⟩
instance : Has T "law" b_law := ⟨by kernel_rfl⟩
instance : HasA T "_law_asked" b_law_asked := ⟨by kernel_rfl⟩
instance : HasC T "BadValue" ["what"] := ⟨by kernel_rfl⟩
end K01

/-! K01p: law k01, def by def. -/
namespace K01
open RX PySem
local macro_rules
  | `(tactic| decreasing_trivial) => `(tactic| (with_reducible apply Sm.mono; (repeat (first | with_reducible assumption | with_reducible exact Sm.self (OfNat.ofNat _) | with_reducible exact num_bd (by assumption) | with_reducible exact den_bd (by assumption) | with_reducible apply Sm.mul | with_reducible apply Sm.add' | with_reducible apply Sm.sub' | with_reducible apply Sm.neg | (with_reducible apply Sm.fmod (by decide)))); decide))
local macro_rules
  | `(tactic| simp! only [$ls,*]) => `(tactic| simp (disch := first | with_reducible assumption | decreasing_trivial | with_reducible exact pure_frD _ | omega) only [ev_cons, seqK_next, seqK_ret, seqK_cnt, seqK_brk, ev_retN, ev_brk, ev_cnt, ev_pass, ev_nil, bind_ok, bind_ex, bind_bad, wp_ok, wp_ex, wp_bad, cwp_ok, cwp_ex, cwp_bad, cwp_ends, flK_ret, flK_next, fin_eq', fin_same, fin_c1, exK_c1, ends_ex1, exK_eq', exK_same, forL_nil, forK_next, forK_cnt, forK_brk, forK_ret, ct_call, ct_lcall, ct_ask, lift_ok, lift_ex, liftN_ok, ends_ret, ends_next, ends_ex, List.getElem?_cons_zero, List.getElem?_cons_succ, List.getElem?_nil, List.set_cons_zero, List.set_cons_succ, List.map_cons, List.map_nil, List.length_cons, List.length_nil, List.cons_append, List.nil_append, List.replicate_succ, List.replicate_zero, Bool.not_true, Bool.not_false, Bool.false_eq_true, if_true, if_false, reduceIte, decide_true, decide_false, decide_eq_true_eq, Bool.true_or, Bool.false_or, Bool.or_true, Bool.or_false, Bool.true_and, Bool.false_and, Bool.and_true, Bool.and_false, Option.map_some, Option.map_none, Option.bind_some, Option.bind_none, Option.getD_some, Option.getD_none, ite_true, ite_false, Nat.sub_self, Nat.reduceSub, Nat.reduceAdd, Nat.reduceMul, Int.reduceAdd, Int.reduceSub, Int.reduceMul, Int.reduceNeg, Int.reduceLT, Int.reduceLE, Int.reduceEq, Int.reduceNe, Int.reduceToNat, Int.reducePow, String.reduceEq, eq_self, ne_eq, not_true_eq_false, not_false_eq_true, Rat.zero_num, Rat.zero_den, Int.cast_ofNat_Int, q_dr_non, q_dr_bl, q_dr_int, q_dr_str, q_dr_tup, q_dr_lst, q_dr_frz, q_dr_dic, q_dr_obj, q_dr_ref, q_dr_fn, q_dr_exc, q_opt_some, q_opt_none, q_tr, q_truth_non, q_truth_bl, q_truth_int, q_truth_str, q_truth_tup, q_truth_lst, q_truth_dic, q_cmp_Lt, q_cmp_LtE, q_cmp_Gt, q_cmp_GtE, q_cmp_Eq, q_cmp_Ne, q_eq_int, q_eq_str, q_eq_bl, q_Is_nn, q_Is_bb, q_Is_bl, q_Is_int, q_Is_str, q_Is_tup, q_Is_lst, q_Is_frz, q_Is_dic, q_Is_obj, q_Is_ref, q_Is_fn, q_IsNot_nn, q_IsNot_bb, q_IsNot_bl, q_IsNot_int, q_IsNot_str, q_IsNot_tup, q_IsNot_lst, q_IsNot_frz, q_IsNot_dic, q_IsNot_obj, q_IsNot_ref, q_IsNot_fn, q_bin_Add, q_bin_Sub, q_bin_Mult, q_bin_FloorDiv, q_bin_Mod, q_bin_Pow, q_bin_Adds, q_bin_Addl, q_b1_len_str, q_b1_len_lst, q_b1_len_frz, q_b1_len_tup, q_b1_abs_int, q_b1_int_int, q_b1_int_bl, q_b1_bool_int, q_b1_bool_bl, q_b1_list_lst, q_b1_list_frz, q_b1_list_tup, q_b1_list_dic, q_b1_lvals_dic, q_b1_tuple_lst, q_b1_tuple_tup, q_b1_bitlen_int, q_b1_upper_str, q_b1_rev_lst, q_b1_all_lst, q_b1_any_lst, q_b1_sum_lst, q_b2_min, q_b2_max, q_b2_join, q_b2_divmod, q_item_lst, q_item_tup, q_item_str, q_item_dici, q_item_dics, q_set_lst, q_set_dic, q_key_i, q_key_s, q_items_lst, q_items_frz, q_items_tup, q_isi_cl_int, q_isi_cl_bl, q_isi_cl_str, q_isi_cl_tup, q_isi_cl_lst, q_isi_cl_dic, q_isi_cl_non, q_isi_ty_int, q_isi_ty_bl, q_isi_ty_str, q_isi_ty_tup, q_isi_ty_lst, q_isi_ty_dic, q_isi_ty_non, q_isi_exc, q_isi_excv, q_isis_1, q_isis_2, q_isl_0, q_isl_1, q_orO, q_plain_int, q_plain_bl, q_plain_str, q_plain_tup, q_plain_lst, q_plain_dic, q_plain_non, q_rdB, q_rdS, q_rdBo_val, q_rdBo_own, q_rdBo_len, q_rdSo_val, q_rdSo_own, q_setSl, q_setT1, q_setT2, q_setSls0, q_setSls1, q_mod1, q_mod2, q_modS, q_modSo_own, q_modSo_ref, q_isL, q_isLo_own, q_isLo_ref, q_isLl, q_app, q_asgSl_lst, q_asgSl_dic, q_asgSlf_non, q_asgSlf_bl, q_asgSlf_int, q_asgSlf_str, q_asgSlf_tup, q_asgSlf_lst, q_asgSlf_frz, q_asgSlf_dic, q_asgSlf_obj, q_asgSlf_ref, q_asgSlf_fn, q_asgSlf_exc, q_asgSlt_int, q_asgSlt_str, q_asgSlt_bl, q_asgSlt_non, q_asgSlt_tup, q_asgSlt_obj, q_asgSlt_ref, q_isSeq_l, q_isSeq_d, q_frK, q_frE_nm, q_frE_bor, q_frE_kI, q_frE_kS, q_frE_kB, q_frE_kN, q_frE_glo, q_frE_neg, q_frE_not, q_frE_and, q_frE_or, q_frE_cmp, q_frE_cmp2, q_frE_ife, q_frE_callv, q_frE_ask, q_frE_bb, q_frE_isi, q_frE_ix, q_frE_tupD, q_frE_attr, q_frE_nope, q_frE_lstD, q_frE_comp, q_frE_slc, q_frE_dicD, q_frE_list, q_frE_lvals, q_frE_rev, q_frE_add, q_frE_Sub, q_frE_Mult, q_frE_FloorDiv, q_frE_Mod, q_frE_Pow, q_frE_b_len, q_frE_b_abs, q_frE_b_int, q_frE_b_tuple, q_frE_b_bitlen, q_frE_b_upper, q_frE_b_all, q_frE_b_any, q_frE_b_sum, q_frE_b_bool, q_liftP_ok, q_liftP_ex, q_frcK, q_frE_call, q_wlP, q_wlX, q_wlQ, q_wp_liftP, q_wp_lift, q_wp_liftN, q_wpK, q_wp_bind, q_lamP, q_lamX, q_cwp_lam, q_frR_nm, q_frRo_own, q_frRo_val, q_frR_bor, q_frR_kI, q_frR_kS, q_frR_kB, q_frR_kN, q_frR_glo, q_frR_neg, q_frR_not, q_frR_and, q_frR_or, q_frR_cmp, q_frR_cmp2, q_frR_ife, q_frR_callv, q_frR_ask, q_frR_bb, q_frR_isi, q_frR_ix, q_frR_tupD, q_frR_attr, q_frR_nope, q_frR_lstD, q_frR_comp, q_frR_slc, q_frR_dicD, q_frR_bu, q_frR_bin, q_frR_call, q_pairs0, q_pairs2, q_pairO, q_mkDic0, q_mkDic1, q_ixl0, q_ixl1, q_ixl2, q_ixl3, q_ixl4, q_ixl5, q_ixl6, q_ixl7, q_ixl8, q_ixl9, q_ixl10, q_ixl11, q_ixl12, q_ixm1, q_ixm2, e_nm, e_bor, e_kI, e_kS, e_kB, e_kN, e_glo, e_nope, k_binK2, k_binK1, e_bin, q_negO, k_negK, e_neg, k_notK2, k_notK1, e_not, k_blK, k_cmpK2, k_cmpK1, e_cmp, k_c2K3, k_c2K2, k_c2K1, e_cmp2, k_ifeK2, k_ifeK1, e_ife, k_callK, e_call, k_cvK, e_callv, k_askT, e_ask, k_buK, e_bu, k_bbK2, k_bbK1, e_bb, k_isiK, e_isi, k_ixK2, k_ixK1, e_ix, q_slcO_l, q_slcO_s, k_slcK3, k_slcK2, k_slcK1, e_slc, k_tupK, e_tupD, k_lstK, e_lstD, k_dicK2, k_dicK, e_dicD, k_someK, k_compK2, k_compF, k_compK3, k_compK1, e_comp, q_attrO, k_attrK, e_attr, e_es0, k_esK2, k_esK1, e_es1, e_and, e_or, e_a1, k_aK2, k_aK1, e_a2, e_o1, k_oK2, k_oK1, e_o2, k_itvK, e_itv, q_rng1O, q_rng1N, k_rng1K, e_rng1, q_rng2O, k_rng2K2, k_rng2K1, e_rng2, e_o_hole, q_intO, k_evOK, e_o_one, e_c_hole, e_c_one, k_asgK, s_asg, k_ownK, s_own, k_newK, s_new, k_asgTK, s_asgT, k_parK2, k_parK1, s_par, k_setF, k_sixK3, k_sixK2, k_sixK1, s_setIx, k_appK, s_app, k_exprK, s_expr, k_iteK2, k_iteK1, s_ite, k_forB2, k_forB, k_forK0, s_for, k_retK, s_ret, q_raisO, k_raisK, s_rais, item_fr0, item_fr1, dr_fr, setT_fr, isi_fr, isic_fr, plain_fr, len_fr, is_fr, isn_fr, zip1, st_get0, st_set0, st_get1, st_set1, st_get2, st_set2, st_get3, st_set3, st_get4, st_set4, st_get5, st_set5, st_get6, st_set6, sq_next, sq_cnt, sq_brk, sq_ret, $ls,*])
variable {k : Nat} {cs : List D}
theorem fr_neg {x : Rat} : (.tup [.int (-x.num), .int x.den] : D) = frD (-x) := rfl
theorem fr_01 : (.tup [.int 0, .int 1] : D) = frD 0 := rfl
theorem fr_11 : (.tup [.int 1, .int 1] : D) = frD 1 := rfl
theorem ev_lfrac (hk : 4 ≤ k) {x : Rat} : callN T k "_law_is_frac" [frD x] cs = .ok (.bl true) false cs := by
  rw [call_has (d := b_law_is_frac) (by omega) rfl rfl]
  have h := isFr_frD x
  have p := den_pos x
  have g : Int.gcd x.num x.den = 1 := by
    unfold frD isFr at h
    simp at h
    exact h.2
  have w : ∀ i, callN T (k - 1) "_law_is_whole" [.int i] cs = .ok (.bl true) false cs := fun i => ev_lwhole (by omega) (by rw [pureD])
  simp! only [b_law_is_frac, w, ev_lgcd, p, g]
theorem ev_quot (hk : 5 ≤ k) {x : Rat} {p q : Int} (hx : Sz 4000 x) (hp : Sm 9000 p) (hq : Sm 9000 q) (h : x.num * q = p * x.den) : callN T k "_law_is_quotient" [frD x, .int p, .int q] cs = .ok (.bl true) false cs := by
  rw [call_has (d := b_law_is_quotient) (by omega) rfl rfl]
  obtain ⟨x1, x2⟩ := hx
  simp! only [b_law_is_quotient, ev_lfrac, mulM, h]
theorem div_num {p q : Int} (hq : q ≠ 0) : (Rat.divInt p q).num * q = p * (Rat.divInt p q).den := by
  have h := Rat.num_divInt_den (Rat.divInt p q)
  exact (Rat.divInt_eq_divInt_iff (den_ne _) hq).mp h
theorem ev_lover (hk : 5 ≤ k) {x y : Rat} (hx : Sz 4000 x) (hy : Sz 4000 y) : callN T k "_law_over" [frD x, frD y] cs = .ok (frD (Rat.divInt (x.num * y.den) (x.den * y.num))) false cs := by
  rw [call_has (d := b_law_over) (by omega) rfl rfl]
  obtain ⟨x1, x2⟩ := hx
  obtain ⟨y1, y2⟩ := hy
  simp! only [b_law_over, mulM, ev_llow]
theorem sgn_pos {x : Rat} {a : Int} (h : 0 < x ↔ 0 < a) (h2 : x < 0 ↔ a < 0) : sgn x = (if 0 < a then 1 else 0) - (if a < 0 then 1 else 0) := by
  unfold sgn
  by_cases h0 : x < 0
  · have := h2.mp h0
    rw [if_pos h0, if_neg (by omega), if_pos this]
    rfl
  · rw [if_neg h0]
    have n2 : ¬ a < 0 := fun z => h0 (h2.mpr z)
    by_cases h3 : 0 < x
    · rw [if_pos h3, if_pos (h.mp h3), if_neg n2]
      rfl
    · have n3 : ¬ 0 < a := fun z => h3 (h.mpr z)
      rw [if_neg h3, if_neg n3, if_neg n2]
      rfl
theorem sgn_neg (x y : Rat) : sgn (y - x) = -sgn (x - y) := by
  unfold sgn
  have a : y - x < 0 ↔ 0 < x - y := by grind
  have b : 0 < y - x ↔ x - y < 0 := by grind
  simp only [a, b]
  by_cases h1 : x - y < 0
  · have : ¬ 0 < x - y := by grind
    simp [h1, this]
  · simp [h1]
    split <;> rfl
theorem ev_holds (hk : 8 ≤ k) {x y : Rat} (hx : Sz 500 x) (hy : Sz 500 y) : callN T k "_law_holds" [frD x, frD y] cs = .ok (.bl true) false cs := by
  rw [call_has (d := b_law_holds) (by omega) rfl rfl]
  have X := hx.mono (show 500 ≤ 4000 by decide)
  have Y := hy.mono (show 500 ≤ 4000 by decide)
  have A := (hx.add hy).mono (show 500 + 500 + 1 ≤ 4000 by decide)
  have B := (hx.sub hy).mono (show 500 + 500 + 1 ≤ 4000 by decide)
  have C := (hx.mul hy).mono (show 500 + 500 ≤ 4000 by decide)
  have n8 : (x.den : Int) * y.den ≠ 0 := Int.mul_ne_zero (den_ne x) (den_ne y)
  have q1 : (x + y).num * ((x.den : Int) * y.den) = (x.num * y.den + y.num * x.den) * (x + y).den := by
    rw [← add_div]
    exact div_num n8
  have q2 : (x - y).num * ((x.den : Int) * y.den) = (x.num * y.den - y.num * x.den) * (x - y).den := by
    rw [← sub_div]
    exact div_num n8
  have q3 : (x * y).num * ((x.den : Int) * y.den) = (x.num * y.num) * (x * y).den := by
    rw [← mul_div]
    exact div_num n8
  have r1 : x + y - y = x := Rat.add_sub_cancel
  have r2 : x - y + y = x := Rat.sub_add_cancel
  have r3 : x + y - x = y := by grind
  have g1 := sgn_pos (gt0_sub x y) (lt0_sub x y)
  have g2 := sgn_pos (x := y) (a := y.num) (by rw [Rat.lt_iff]; simp) (by rw [Rat.lt_iff]; simp)
  obtain ⟨x1, x2⟩ := hx
  obtain ⟨y1, y2⟩ := hy
  generalize hg : (if 0 < x.num * y.den - y.num * x.den then (1 : Int) else 0) - (if x.num * y.den - y.num * x.den < 0 then 1 else 0) = due at g1
  generalize hh : (if 0 < y.num then (1 : Int) else 0) - (if y.num < 0 then 1 else 0) = due2 at g2
  have g3 : sgn (y - x) = -due := by rw [sgn_neg, g1]
  by_cases h0 : y = 0
  · have c0 : y.num = 0 := by rw [h0]; rfl
    have c2 : decide (y.num = 0) = true := decide_eq_true c0
    clear h0
    simp! only [b_law_holds, ev_plus, ev_times, mulM, ev_quot, ev_minus, r1, r2, q1, q2, q3, ev_same_fr, c2, hg, hh, ev_compare, g1, g2, g3, r3, ev_same_int]
  · have c0 := num_ne h0
    have q4 : (x / y).num * ((x.den : Int) * y.num) = (x.num * y.den) * (x / y).den := by
      rw [← div_div x y h0]
      exact div_num (Int.mul_ne_zero (den_ne x) c0)
    have r4 : x * y / y = x := Rat.mul_div_cancel h0
    have E : Sz 4000 (x / y) := (Sz.div ⟨x1, x2⟩ ⟨y1, y2⟩ h0).mono (by decide)
    simp! only [b_law_holds, ev_plus, ev_times, mulM, ev_quot, ev_minus, r1, r2, q1, q2, q3, ev_same_fr, c0, ev_over, q4, r4, hg, hh, ev_compare, g1, g2, g3, r3, ev_same_int]
theorem ev_fits (hk : 4 ≤ k) {x : Rat} : callN T k "_law_fits" [frD x] cs = .ok (.bl (decide (x.num.natAbs < 10 ^ 40) && decide (x.den < 10 ^ 40))) false cs := by
  have p0 : powOk 10 40 = true := by decide
  have fi : ∀ (i : Int), callN T (k - 1) "_law_fits" [.int i] cs = .ok (.bl (decide (i.natAbs < 10 ^ 40))) false cs := fun i => by
    rw [call_has (d := b_law_fits) (by omega) rfl rfl]
    have e : decide ((i.natAbs : Int) < 10000000000000000000000000000000000000000) = decide (i.natAbs < 10 ^ 40) := by
      congr 1
      simp
      omega
    simp! only [b_law_fits, p0, abs_if, e]
  rw [call_has (d := b_law_fits) (by omega) rfl rfl]
  unfold frD
  by_cases h1 : x.num.natAbs < 10 ^ 40
  · by_cases h2 : x.den < 10 ^ 40
    · simp! only [forL_cons, b_law_fits, fi, h1, h2, Int.natAbs_natCast]
    · simp! only [forL_cons, b_law_fits, fi, h1, h2, Int.natAbs_natCast]
  · simp! only [forL_cons, b_law_fits, fi, h1, Int.natAbs_natCast]
def TwoQ (d : D) : Prop := ∃ x y, d = .tup [frD x, frD y] ∧ Sz 500 x ∧ Sz 500 y
theorem two_wp (hk : 10 ≤ k) {N : Nat} {s : D} {r : List D} (hS : St N s) (hN : N + 50 < 1000000000) :
    (callN T k "_law_two" [.ref 0] (s :: r)).wp (DrawQ (N + 50) r TwoQ) nox := by
  rw [call_has (d := b_law_two) (by omega) rfl rfl]
  simp! only [b_law_two]
  refine cwp_mono (frac_wide_wp (by omega) (by assumption) (by omega)) ?_ (fun _ _ _ h => h.elim); rintro dd _ _ ⟨_, rfl, _, x, rfl, hx⟩
  simp! only []
  refine cwp_mono (pick_wp (by omega) (by assumption) (by simp) (by simp) (by omega)) ?_ (fun _ _ _ h => h.elim); rintro dd _ _ ⟨_, rfl, _, hd⟩
  obtain ⟨n, rfl, hn⟩ : ∃ n, dd = D.int n ∧ n.natAbs ≤ 2 := by
    simp only [List.mem_cons, List.not_mem_nil, or_false] at hd
    rcases hd with rfl | rfl | rfl
    · exact ⟨1, rfl, by decide⟩
    · exact ⟨-1, rfl, by decide⟩
    · exact ⟨2, rfl, by decide⟩
  have sn : Sm 2 n := ⟨by omega⟩
  have px := den_pos x
  have sd : Sm 200 (max 1 ((x.den : Int) + n)) := by
    have h : Sm 200 ((x.den : Int) + n) := by
      have := hx.2
      decreasing_trivial
    rw [Sm_iff] at h ⊢
    omega
  have e : (if (x.den : Int) + n > 1 then (x.den : Int) + n else 1) = max 1 ((x.den : Int) + n) := by split <;> omega
  have X := hx.mono (show 140 ≤ 4000 by decide)
  have O : Sz 4000 1 := ⟨⟨by decide⟩, ⟨by decide⟩⟩
  simp! only [fr_neg, fr_11, ev_lover, ev_llow, e]
  refine cwp_mono (frac_wide_wp (by omega) (by assumption) (by omega)) ?_ (fun _ _ _ h => h.elim); rintro dd _ _ ⟨_, rfl, _, y1, rfl, hy1⟩
  simp! only []
  refine cwp_mono (frac_wide_wp (by omega) (by assumption) (by omega)) ?_ (fun _ _ _ h => h.elim); rintro dd _ _ ⟨_, rfl, _, y2, rfl, hy2⟩
  simp! only []
  refine cwp_mono (frac_wp (by omega) (by assumption) (by omega)) ?_ (fun _ _ _ h => h.elim); rintro dd _ _ ⟨_, rfl, _, y3, rfl, hy3⟩
  simp! only []
  refine cwp_mono (take_wp (by omega) (by assumption) (by decreasing_trivial) (by omega)) ?_ (fun _ _ _ h => h.elim); rintro _ _ _ ⟨v, s_v, rfl, rfl, rfl, hS_v, v0, v1⟩; replace v1 := v1 (by omega)
  have v8 : v.toNat < 8 := by omega
  simp! only [q_ix_nn v0 (show v < ((8 : Nat) : Int) from v1)]
  refine opt_mem (fun d => ∃ z, d = frD z) v8 ?_ ?_
  · simp only [List.mem_cons, List.not_mem_nil, or_false]
    rintro d (rfl | rfl | rfl | rfl | rfl | rfl | rfl | rfl) <;> exact ⟨_, rfl⟩
  rintro _ ⟨z, rfl⟩
  have H : Sz 500 x := hx.mono (by decide)
  by_cases hf : (decide (z.num.natAbs < 10 ^ 40) && decide (z.den < 10 ^ 40)) = true
  · have Z : Sz 500 z := by
      simp only [Bool.and_eq_true, decide_eq_true_eq] at hf
      have h4 : (10 : Nat) ^ 40 ≤ 2 ^ 133 := by decide
      exact Sz.mono (n := 133) ⟨⟨by omega⟩, ⟨by rw [Int.natAbs_natCast]; omega⟩⟩ (by decide)
    simp! only [ev_fits, hf]
    refine cwp_mono (take_wp (by omega) (by assumption) (by decreasing_trivial) (by omega)) ?_ (fun _ _ _ h => h.elim); rintro _ _ _ ⟨u, s_u, rfl, rfl, rfl, hS_u, u0, u1⟩; replace u1 := u1 (by omega)
    by_cases h0 : u = 0
    · simp! only [h0]
      exact ⟨_, rfl, St.mono (by assumption) (by omega), _, _, rfl, Z, H⟩
    · simp! only [h0]
      exact ⟨_, rfl, St.mono (by assumption) (by omega), _, _, rfl, H, Z⟩
  · have hf := Bool.eq_false_iff.mpr hf
    simp! only [ev_fits, hf]
    refine cwp_mono (take_wp (by omega) (by assumption) (by decreasing_trivial) (by omega)) ?_ (fun _ _ _ h => h.elim); rintro _ _ _ ⟨u, s_u, rfl, rfl, rfl, hS_u, u0, u1⟩; replace u1 := u1 (by omega)
    by_cases h0 : u = 0
    · simp! only [h0]
      exact ⟨_, rfl, St.mono (by assumption) (by omega), _, _, rfl, H, H⟩
    · simp! only [h0]
      exact ⟨_, rfl, St.mono (by assumption) (by omega), _, _, rfl, H, H⟩
def ops : List String := ["plus", "minus", "times", "over", "compare"]
theorem ref_ops {f : String} (h : f ∈ ops) : Ref2 T f ∧ f ∈ ["compare", "minus", "over", "plus", "times"] := by
  unfold ops at h
  simp only [List.mem_cons, List.not_mem_nil, or_false] at h
  rcases h with rfl | rfl | rfl | rfl | rfl
  · exact ⟨⟨fun k cs d e h1 h2 h3 h4 => ev_plus_l h1 h2 h3 h4, fun k cs d e h1 h2 h3 h4 h5 => ev_plus_r h1 h2 h3 h4 h5⟩, by simp⟩
  · exact ⟨⟨fun k cs d e h1 h2 h3 h4 => ev_minus_l h1 h2 h3 h4, fun k cs d e h1 h2 h3 h4 h5 => ev_minus_r h1 h2 h3 h4 h5⟩, by simp⟩
  · exact ⟨⟨fun k cs d e h1 h2 h3 h4 => ev_times_l h1 h2 h3 h4, fun k cs d e h1 h2 h3 h4 h5 => ev_times_r h1 h2 h3 h4 h5⟩, by simp⟩
  · exact ⟨⟨fun k cs d e h1 h2 h3 h4 => ev_over_l h1 h2 h3 h4, fun k cs d e h1 h2 h3 h4 h5 => ev_over_r h1 h2 h3 h4 h5⟩, by simp⟩
  · exact ⟨⟨fun k cs d e h1 h2 h3 h4 => ev_compare_l h1 h2 h3 h4, fun k cs d e h1 h2 h3 h4 h5 => ev_compare_r h1 h2 h3 h4 h5⟩, by simp⟩
def refI (N : Nat) (x y : Rat) (i : Nat) (w : W) : Prop := ∃ s s3 s4 s5, w = ⟨[.val (.ref 0), .val (frD x), .val (frD y), s3, s4, s5], [s]⟩ ∧ St (N + 12 * i) s
theorem refuses_wp (hk : 14 ≤ k) {N : Nat} {s : D} (hS : St N s) (hN : N + 80 < 1000000000) {x y : Rat} :
    (callN T k "_law_refuses" [.ref 0, frD x, frD y] [s]).wp (DrawQ (N + 80) [] fun d => d = .bl true) nox := by
  rw [call_has (d := b_law_refuses) (by omega) rfl rfl]
  simp! only [b_law_refuses]
  refine for_list (refI N x y) ?_ ?_ _ ⟨_, _, _, _, rfl, hS⟩
  · rintro i z w hz ⟨s', s3, s4, s5, rfl, hS'⟩
    have hi : i < 5 := by
      rcases Nat.lt_or_ge i 5 with h | h
      · exact h
      · rw [List.getElem?_eq_none (by simpa using h)] at hz
        cases hz
    obtain ⟨f, rfl, hf⟩ : ∃ f, z = .fn f ∧ f ∈ ops := by
      have : z ∈ ops.map D.fn := List.mem_of_getElem? hz
      obtain ⟨f, hf, rfl⟩ := List.mem_map.mp this
      exact ⟨f, rfl, hf⟩
    obtain ⟨⟨rl, rr⟩, hf⟩ := ref_ops hf
    simp! only []
    refine cwp_mono (bad_wp (by omega) (by assumption) (by omega)) ?_ (fun _ _ _ h => h.elim); rintro dd _ _ ⟨_, rfl, _, hd⟩
    obtain ⟨d1, d2⟩ := hd
    have fx := isFr_frD x
    have nx : ∀ {M : Nat} {u : D}, St M u → noXs [u] = true := fun h => by rw [noXs, noXs, h.noX]; rfl
    simp! only []
    refine cwp_mono (bad_wp (by omega) (by assumption) (by omega)) ?_ (fun _ _ _ h => h.elim); rintro dd _ _ ⟨_, rfl, _, he⟩
    obtain ⟨e1, e2⟩ := he
    simp! only []
    refine ask_wp sL ?_ (nx (by assumption)) ?_
    · simp! only [k_askT, lmc_call, ct_lcall', lnd_val, lnd_no, lnd_own, lnd_len, lmc_ok, lmc_ex, hf, rl]
    simp! only [sBad, sL, ev_same_ss]
    refine ask_wp sL ?_ (nx (by assumption)) ?_
    · simp! only [k_askT, lmc_call, ct_lcall', lnd_val, lnd_no, lnd_own, lnd_len, lmc_ok, lmc_ex, hf, rl]
    simp! only [sBad, sL, ev_same_ss]
    refine ask_wp sR ?_ (nx (by assumption)) ?_
    · simp! only [k_askT, lmc_call, ct_lcall', lnd_val, lnd_no, lnd_own, lnd_len, lmc_ok, lmc_ex, hf, rr, isFr_frD]
    simp! only [sBad, sR, ev_same_ss]
    exact ⟨_, _, _, _, rfl, St.mono (by assumption) (by omega)⟩
  · rintro w ⟨s', s3, s4, s5, rfl, hS'⟩
    have nx : ∀ {M : Nat} {u : D}, St M u → noXs [u] = true := fun h => by rw [noXs, noXs, h.noX]; rfl
    simp! only []
    have hS'' := hS'.mono (show N + 12 * _ ≤ N + 60 by simp)
    refine cwp_mono (bad_wp (by omega) (by assumption) (by omega)) ?_ (fun _ _ _ h => h.elim); rintro dd _ _ ⟨_, rfl, _, hd⟩
    obtain ⟨d1, d2⟩ := hd
    simp! only [fr_01]
    refine ask_wp sL ?_ (nx (by assumption)) ?_
    · simp! only [k_askT, lmc_call, ct_lcall', lnd_val, lnd_no, lnd_own, lnd_len, lmc_ok, lmc_ex, fr_01, ev_over_l]
    simp! only [sBad, sL, ev_same_ss]
    refine ask_wp sR ?_ (nx (by assumption)) ?_
    · simp! only [k_askT, lmc_call, ct_lcall', lnd_val, lnd_no, lnd_own, lnd_len, lmc_ok, lmc_ex, fr_01, ev_over_0]
    simp! only [sBad, sR, ev_same_ss]
    exact ⟨_, rfl, St.mono (by assumption) (by omega), rfl⟩
theorem ev (ns : List Int) (hl : ns.length ≤ 63) (hb : ∀ z ∈ ns, Builtin.Int.intBits z ≤ 1048576) : ∃ fr cs, callN text.tx 231 "law" [.frz (ns.map D.int)] [] = .ok (.bl true) fr cs := by
  have key : (callN T 231 "law" [.frz (ns.map D.int)] []).wp (fun d fr cs => d = .bl true) nox := by
    rw [call_has (d := b_law) (by omega) rfl rfl]
    simp! only [b_law]
    refine cwp_mono (store_wp (by omega) hl hb) ?_ (fun _ _ _ h => h.elim)
    rintro s fr cs ⟨rfl, rfl, hS⟩
    simp! only [hS.seq]
    refine cwp_mono (two_wp (by omega) (by assumption) (by omega)) ?_ (fun _ _ _ h => h.elim); rintro dd _ _ ⟨_, rfl, _, x, y, rfl, hx, hy⟩
    simp! only []
    refine cwp_mono (two_wp (by omega) (by assumption) (by omega)) ?_ (fun _ _ _ h => h.elim); rintro dd _ _ ⟨_, rfl, _, u, v, rfl, hu, hv⟩
    simp! only [forL_cons, ev_holds]
    refine cwp_mono (refuses_wp (by omega) (by assumption) (by omega)) ?_ (fun _ _ _ h => h.elim); rintro dd _ _ ⟨_, rfl, _, rfl⟩
    simp! only [forL_cons, ev_holds]
    refine cwp_mono (refuses_wp (by omega) (by assumption) (by omega)) ?_ (fun _ _ _ h => h.elim); rintro dd _ _ ⟨_, rfl, _, rfl⟩
    simp! only [forL_cons, ev_holds]
    refine cwp_mono (refuses_wp (by omega) (by assumption) (by omega)) ?_ (fun _ _ _ h => h.elim); rintro dd _ _ ⟨_, rfl, _, rfl⟩
    simp! only [forL_cons, ev_holds]
    refine cwp_mono (refuses_wp (by omega) (by assumption) (by omega)) ?_ (fun _ _ _ h => h.elim); rintro dd _ _ ⟨_, rfl, _, rfl⟩
    simp! only [forL_cons, fin_law]
  obtain ⟨d, fr, cs, e, rfl⟩ := cwp_get key
  exact ⟨fr, cs, e⟩
end K01

/-! K01h: check, head, end of law k01 (printed by mk.py). -/
namespace K01
open RX PySem PySem.W PySem.Calls PyProof.Rows
abbrev prog : Program := PySem.Challenge.rw_wheelsky_k01_sums.prog
theorem chkd : text.chk prog = true := by decide +kernel
abbrev R : PySem.W.OpenRow := PySem.W.OpenLaw.row PySem.Challenge.rw_wheelsky_k01_sums
def isLoc : PySem.NameKind → Bool
  | .local => true
  | _ => false
def names : List PySem.Str := (R.prog.main.scope.names.filter (fun p => isLoc p.2)).map (·.1) |>.filter (fun x => x != "law")
abbrev hk : PySem.W.Hook := He.hookX 4 text.fa (text.fn prog) [] text.tf text.ex
def ob (s : PySem.W.SharedT) : He.AlX := He.obsX 4 text.fa (text.fn prog) [] text.tf text.ex (HandSHeadRun.getT s)
theorem ob_eq (s : PySem.W.SharedT) : ob s = hk.obs s.abs := He.obsX_eq (HandSHeadRun.getT_eq s)
theorem run (w : World) : HandSHeadRun.RunEq R (PySem.W.view R.prog [47]) hk ob 4000 names w := by
  intro os
  kernel_rfl
theorem holds (ev : ∀ ns : List Int, ns.length ≤ 63 → (∀ z ∈ ns, Builtin.Int.intBits z ≤ 1048576) → ∃ fr cs, callN text.tx 231 "law" [.frz (ns.map D.int)] [] = .ok (.bl true) fr cs) : PySem.Challenge.rw_wheelsky_k01_sums.Holds := by
  w_on; o_law
  refine HandSHeadRun.head_any (r := R) (q := view R.prog [47]) (H := hk) (ob := ob) (M := 4000) (loose := names) (d := HandSHeadRun.topDef R.prog 47) (kwd := []) ob_eq
    (by kernel_rfl) (fun s => by kernel_rfl) run (by kernel_rfl) (by kernel_rfl) (by kernel_rfl) (by rfl) (by first | assumption | decide +kernel) (by decide +kernel) ⟨rfl, rfl, rfl, rfl, rfl, by decide +kernel⟩ ?hw ?hc
  case hw => w_witness2
  case hc =>
    refine LamX.walk_ofTsE (l := PySem.Challenge.rw_wheelsky_k01_sums) (n := 63) (k := 231) (x := "_law_script") (CX := fun w => L2.CX prog w) rfl (by decide) (by kernel_rfl) ⟨rfl, by decide, by decide⟩ ?F (fun w H s e s' z => ?_)
    · intro w mg fa h Y G hmg0
      obtain ⟨K, KX, c⟩ := Y
      have hmg : mg (Str.ofString "law") = some (.ref fa) := by
        have e : (HandSHeadRun.topDef R.prog 47).name = Str.ofString "law" := by kernel_rfl
        rw [← e]
        exact hmg0
      exact ⟨K, KX, law_at (m := text) (d := ⟨"law", ["_law_script", "_law_store_here", "_law_first", "_law_second", "_law_pair"], false, b_law⟩) (N := 63) chkd KX G c (by kernel_rfl) rfl (by kernel_rfl) hmg (by decide) ev⟩
    · obtain ⟨_, _, _, _, _, _, _, _, _, _, _, _, _, _, _, _, hF⟩ := z
end K01
set_option maxRecDepth 100000 in
theorem PySem.Challenge.cw_wheelsky_k01_sums_holds : PySem.Challenge.rw_wheelsky_k01_sums.Holds := by
  exact K01.holds K01.ev
